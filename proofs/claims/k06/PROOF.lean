import PyProof.Rows.All
import Wide.All
import OpenK.AllK
import Wide.FinOn
import HandS.Base
import HandS.Call
import HandS.List
import HandS.Comp
import HandS.Words
import HandS.ForMost
import HandS.TupAny
import HandS.TupMul
import HandS.Deep
import HandS.Flow
import HandS.IsInst
import HandS.Wide
import HandS.Iter
import HandS.Zip
import KE.GoesEnum
import HandS.Text
import HandS.Dict
import KE.KUnpackStar
import KE.KDictZip
import HandS.Ends
import HandS.Style
import HandS.TryOnly
import PyProof.StrLawsRepr
import PySem.Challenge.RW_endpapers_k06_terms_written_and_read
set_option Elab.async false
set_option linter.all false
set_option maxRecDepth 100000
set_option maxHeartbeats 4000000
/-! Pv0: what a text of plain forms is, by its form alone. -/
namespace Pv
open PySem PySem.Spec L2

def notStar : Expr → Bool
  | .Starred _ _ => false
  | _ => true
def notSlice : Expr → Bool
  | .Slice _ _ _ _ => false
  | _ => true
def notSet : Expr → Bool
  | .Set _ _ _ => false
  | _ => true
def notComp : Expr → Bool
  | .ListComp _ _ _ _ => false
  | .SetComp _ _ _ _ => false
  | .DictComp _ _ _ _ _ => false
  | _ => true
def notTuple : Expr → Bool
  | .Tuple _ _ _ => false
  | _ => true
def notCall : Expr → Bool
  | .Call _ [] _ _ => false
  | _ => true
def plainT : Expr → Bool
  | .UnaryOp _ _ _ => false
  | .BoolOp _ _ _ => false
  | .IfExp _ _ _ _ => false
  | .Compare _ _ _ _ => false
  | _ => true
section
variable {e e2 o b tg : Expr} {es : List Expr} {env : Env} {pos : Pos}
theorem star_cons (h : notStar e = true) : starEach (e :: es) env = (false, eval e env) :: starEach es env := by
  cases e <;> first | rfl | exact absurd h Bool.false_ne_true
theorem star_one (h : notStar e = true) : starEach [e] env = [(false, eval e env)] := star_cons h
theorem star_two (h : notStar e = true) (h2 : notStar e2 = true) : starEach [e, e2] env = [(false, eval e env), (false, eval e2 env)] := by rw [star_cons h, star_one h2]
theorem star_plain : ∀ {es : List Expr}, es.all notStar = true → (backTo pos (starEach es env)).any (·.1) = false
  | [], _ => rfl
  | e :: es, h => by
    simp only [List.all_cons, Bool.and_eq_true] at h
    rw [star_cons h.1]
    show (false || (backTo pos (starEach es env)).any (·.1)) = false
    rw [star_plain h.2]; rfl
theorem star_all : ∀ {es : List Expr}, es.all notStar = true → (backTo pos (starEach es env)).all (fun x => !x.1) = true
  | [], _ => rfl
  | e :: es, h => by
    simp only [List.all_cons, Bool.and_eq_true] at h
    rw [star_cons h.1]
    show (true && (backTo pos (starEach es env)).all (fun x => !x.1)) = true
    rw [star_all h.2]; rfl
theorem star_few (h : es.all notStar = true) (hl : es.length < 30) : ((backTo pos (starEach es env)).all (fun x => !x.1) && (backToKw pos (keywordEach [] env)).all (fun x => x.1.isSome)
      && decide (es.length + ([] : List Keyword).length + (if ([] : List Keyword).isEmpty then 0 else 1) < 30)) = true := by
  rw [star_all h]
  have e1 : (backToKw pos (keywordEach [] env)).all (fun x => x.1.isSome) = true := rfl
  rw [e1]
  show (true && true && decide (es.length + 0 + 0 < 30)) = true
  rw [decide_eq_true (by omega)]; rfl
theorem asg_cons (h : notStar e = true) : (assignEach (e :: es) env).map (·.2) = assign e env :: (assignEach es env).map (·.2) := by
  cases e <;> first | rfl | exact absurd h Bool.false_ne_true
theorem asg_one (h : notStar e = true) : (assignEach [e] env).map (·.2) = [assign e env] := asg_cons h
theorem asg_len : ∀ {es : List Expr}, (assignEach es env).length = es.length
  | [] => rfl
  | e :: es => by
    have h : (assignEach (e :: es) env).length = (assignEach es env).length + 1 := by cases e <;> rfl
    rw [h, asg_len]; rfl
theorem asg_find : ∀ {es : List Expr}, es.all notStar = true → (assignEach es env).findIdx? (·.1) = none
  | [], _ => rfl
  | e :: es, h => by
    simp only [List.all_cons, Bool.and_eq_true] at h
    have h1 : assignEach (e :: es) env = (false, assign e env) :: assignEach es env := by
      have h0 := h.1
      cases e <;> first | rfl | exact absurd h0 Bool.false_ne_true
    rw [h1, List.findIdx?_cons, asg_find h.2]; rfl
theorem swaps_no {t : Option Expr} {line : Nat} (h : notComp e = true) : swapsWith e t line env = pure false := by
  cases e <;> first | rfl | exact absurd h Bool.false_ne_true
theorem swaps_sole {line : Nat} (h : notComp e = true) : swapsWithSole [tg] e line env = pure false := swaps_no h
theorem swst_no (h : notTuple e = true) : swappedStores [tg] e env = pure none := by
  cases e <;> first | (cases tg <;> rfl) | exact absurd h Bool.false_ne_true
theorem ist_no (h : plainT e = true) : ∀ whole, isTrue e env whole = (do let v ← whole; standAt e.pos; holding [v] (truthy v)) := fun whole => by
  cases e <;> first | rfl | exact absurd h Bool.false_ne_true
theorem fold_no (h : notSet e = true) : ∀ x, foldedSetIterable e env x = pure x := fun x => by
  cases e <;> first | rfl | exact absurd h Bool.false_ne_true
theorem mark_no {op : CmpOp} (h : notSet e = true) : behindInMarks op e = false := by
  cases e <;> first | rfl | exact absurd h Bool.false_ne_true
theorem last_no {op op' : CmpOp} (h : notSet e2 = true) : lastMarks [op, op'] [e, e2] = false := mark_no h
theorem pix_no (h : notSlice b = true) : PlainIx b := fun _ _ => by
  cases b <;> first | rfl | exact absurd h Bool.false_ne_true
theorem base_no {f : Str} {whole : Sem Value} (h : notCall o = true) : attributeBase o f env whole = whole := by
  cases o with
  | Call f args kws p => cases args with
    | nil => exact absurd h Bool.false_ne_true
    | cons a as => cases f <;> rfl
  | _ => rfl
theorem asub_no (h : notSlice b = true) : ∀ v, assign (.Subscript o b pos) env v = (do
      let ov ← holding [v] (eval o env)
      let iv ← holding [v, ov] (eval b env)
      standAt pos
      holding [v, ov, iv] (setItem ov iv v)
      release [v, ov, iv] []) := fun v => by
  cases b <;> first | rfl | exact absurd h Bool.false_ne_true
end
end Pv

/-! Pv1: values without a heap, how they lie in one, and readings over them. -/
namespace Pv
open PySem PySem.Spec L2

/-- a value: what never changes stands written out; what may be changed is a number in the store -/
inductive PV where
  | non | bl (b : Bool) | int (i : Int) | str (s : Str) | tup (xs : List PV) | lst (xs : List PV) | fls (xs : List PV) | dk (ks : List Key) (vs : List PV) | ref (n : Nat)

inductive Cell where
  | lst (xs : List PV) | dk (ks : List Key) (vs : List PV) | dt (ks : List (List Key)) (vs : List PV)

abbrev Sto := List Cell
abbrev Envp := List (Option PV)

def LstAt (ro fr : List Addr) (H : Hp) (a : Addr) (vs : List V) : Prop := H a = some (.lst vs) ∧ a ∉ ro ∧ a ∉ fr
def FlsAt (K : PySem.W.Frag) (ro fr : List Addr) (H : Hp) (a : Addr) (vs : List V) : Prop := (Rd H a (.lst vs) ∧ a ∉ ro ∧ a ∉ fr) ∨ SqL K (fun _ => none) a vs
def TupAt (K : PySem.W.Frag) (ro fr : List Addr) (H : Hp) (a : Addr) (vs : List V) : Prop := (Rd H a (.tup vs) ∧ a ∉ ro ∧ a ∉ fr) ∨ SqT K (fun _ => none) a vs
def DctAt (ro fr : List Addr) (H : Hp) (a : Addr) (kvs : List (Key × V)) : Prop := H a = some (.dK kvs) ∧ a ∉ ro ∧ a ∉ fr

mutual
inductive RepV (K : PySem.W.Frag) (ro fr : List Addr) (H : Hp) : PV → V → Prop
  | non : RepV K ro fr H .non .non
  | bl (b : Bool) : RepV K ro fr H (.bl b) (.bl b)
  | int (i : Int) : RepV K ro fr H (.int i) (.int i)
  | str (s : Str) : RepV K ro fr H (.str s) (.str s)
  | tup {a : Addr} {xs : List PV} {vs : List V} : TupAt K ro fr H a vs → RepVs K ro fr H xs vs → RepV K ro fr H (.tup xs) (.ref a)
  | lst {a : Addr} {xs : List PV} {vs : List V} : LstAt ro fr H a vs → RepVs K ro fr H xs vs → RepV K ro fr H (.lst xs) (.ref a)
  | fls {a : Addr} {xs : List PV} {vs : List V} : FlsAt K ro fr H a vs → RepVs K ro fr H xs vs → RepV K ro fr H (.fls xs) (.ref a)
  | dk {a : Addr} {ks : List Key} {xs : List PV} {kvs : List (Key × V)} : DctAt ro fr H a kvs → kvs.map (·.1) = ks → RepVs K ro fr H xs (kvs.map (·.2)) → RepV K ro fr H (.dk ks xs) (.ref a)
  | ref {a : Addr} {n : Nat} : ro[n]? = some a → RepV K ro fr H (.ref n) (.ref a)
inductive RepVs (K : PySem.W.Frag) (ro fr : List Addr) (H : Hp) : List PV → List V → Prop
  | nil : RepVs K ro fr H [] []
  | cons {x : PV} {xs : List PV} {v : V} {vs : List V} : RepV K ro fr H x v → RepVs K ro fr H xs vs → RepVs K ro fr H (x :: xs) (v :: vs)
end

structure Ext (ro : List Addr) (H : Hp) (ro' : List Addr) (H' : Hp) : Prop where
  pre : ∃ t, ro' = ro ++ t
  old : ∀ a o, H a = some o → a ∉ ro → H' a = some o
  new : ∀ a ∈ ro', a ∈ ro ∨ H a = none

section
variable {K : PySem.W.Frag} {ro ro' ro2 fr : List Addr} {H H' H2 : Hp}
theorem Ext.refl : Ext ro H ro H := ⟨⟨[], by simp⟩, fun _ _ h _ => h, fun _ h => .inl h⟩
theorem Ext.trans (e : Ext ro H ro' H') (f : Ext ro' H' ro2 H2) : Ext ro H ro2 H2 where
  pre := by
    obtain ⟨t, rfl⟩ := e.pre
    obtain ⟨u, rfl⟩ := f.pre
    exact ⟨t ++ u, by simp⟩
  old := fun a o h n => f.old a o (e.old a o h n) fun m => (e.new a m).elim n fun z => by rw [h] at z; cases z
  new := fun a m => by
    rcases f.new a m with z | z
    · exact e.new a z
    · cases q : H a with
      | none => exact .inr rfl
      | some o =>
        by_cases hn : a ∈ ro
        · exact .inl hn
        · rw [e.old a o q hn] at z; cases z
theorem Ext.get (e : Ext ro H ro' H') {n : Nat} {a : Addr} (h : ro[n]? = some a) : ro'[n]? = some a := by
  obtain ⟨t, rfl⟩ := e.pre
  rw [List.getElem?_append_left (List.getElem?_eq_some_iff.mp h).1]
  exact h
theorem Ext.nin (e : Ext ro H ro' H') {a : Addr} {o : HO} (h : H a = some o) (n : a ∉ ro) : a ∉ ro' := fun m => (e.new a m).elim n fun z => by rw [h] at z; cases z
theorem Ext.rd (e : Ext ro H ro' H') {a : Addr} {u : HO} (h : Rd H a u) (n : a ∉ ro) : Rd H' a u ∧ a ∉ ro' := by
  rcases h with h | ⟨o, h⟩
  · exact ⟨.inl (e.old _ _ h n), e.nin h n⟩
  · exact ⟨.inr ⟨o, e.old _ _ h n⟩, e.nin h n⟩
theorem LstAt.ext (e : Ext ro H ro' H') {a : Addr} {vs : List V} (h : LstAt ro fr H a vs) : LstAt ro' fr H' a vs :=
  ⟨e.old _ _ h.1 h.2.1, e.nin h.1 h.2.1, h.2.2⟩
theorem FlsAt.ext (e : Ext ro H ro' H') {a : Addr} {vs : List V} (h : FlsAt K ro fr H a vs) : FlsAt K ro' fr H' a vs := by
  rcases h with ⟨h, n, m⟩ | h
  · exact .inl ⟨(e.rd h n).1, (e.rd h n).2, m⟩
  · exact .inr h
theorem TupAt.ext (e : Ext ro H ro' H') {a : Addr} {vs : List V} (h : TupAt K ro fr H a vs) : TupAt K ro' fr H' a vs := by
  rcases h with ⟨h, n, m⟩ | h
  · exact .inl ⟨(e.rd h n).1, (e.rd h n).2, m⟩
  · exact .inr h
theorem DctAt.ext (e : Ext ro H ro' H') {a : Addr} {vs : List (Key × V)} (h : DctAt ro fr H a vs) : DctAt ro' fr H' a vs :=
  ⟨e.old _ _ h.1 h.2.1, e.nin h.1 h.2.1, h.2.2⟩
theorem sqL_none {a : Addr} {vs : List V} (h : SqL K (fun _ => none) a vs) : SqL K H a vs := by
  rcases h with (h | ⟨o, h⟩) | h
  · cases h
  · cases h
  · exact .inr h
theorem sqT_none {a : Addr} {vs : List V} (h : SqT K (fun _ => none) a vs) : SqT K H a vs := by
  rcases h with (h | ⟨o, h⟩) | h
  · cases h
  · cases h
  · exact .inr h
theorem LstAt.sq {a : Addr} {vs : List V} (h : LstAt ro fr H a vs) : SqL K H a vs := SqL.of h.1
theorem FlsAt.sq {a : Addr} {vs : List V} (h : FlsAt K ro fr H a vs) : SqL K H a vs := by
  rcases h with ⟨h, _⟩ | h
  · exact .inl h
  · exact sqL_none h
theorem TupAt.sq {a : Addr} {vs : List V} (h : TupAt K ro fr H a vs) : SqT K H a vs := by
  rcases h with ⟨h, _⟩ | h
  · exact .inl h
  · exact sqT_none h
end

section
variable {K : PySem.W.Frag} {ro ro' fr fr' : List Addr} {H H' : Hp}
mutual
/-- how a value's standing is carried over: its objects stand, its references too -/
theorem RepV.imp (hl : ∀ a vs, LstAt ro fr H a vs → LstAt ro' fr' H' a vs) (hf : ∀ a vs, FlsAt K ro fr H a vs → FlsAt K ro' fr' H' a vs) (ht : ∀ a vs, TupAt K ro fr H a vs → TupAt K ro' fr' H' a vs) (hd : ∀ a vs, DctAt ro fr H a vs → DctAt ro' fr' H' a vs)
    (hr : ∀ (n : Nat) (a : Addr), ro[n]? = some a → ro'[n]? = some a) : ∀ (x : PV) (v : V), RepV K ro fr H x v → RepV K ro' fr' H' x v
  | .non, _, h => by cases h; exact .non
  | .bl b, _, h => by cases h; exact .bl b
  | .int i, _, h => by cases h; exact .int i
  | .str s, _, h => by cases h; exact .str s
  | .tup xs, _, h => by
    cases h with
    | tup h1 h2 => exact .tup (ht _ _ h1) (RepVs.imp hl hf ht hd hr xs _ h2)
  | .lst xs, _, h => by
    cases h with
    | lst h1 h2 => exact .lst (hl _ _ h1) (RepVs.imp hl hf ht hd hr xs _ h2)
  | .fls xs, _, h => by
    cases h with
    | fls h1 h2 => exact .fls (hf _ _ h1) (RepVs.imp hl hf ht hd hr xs _ h2)
  | .dk ks xs, _, h => by
    cases h with
    | dk h1 h2 h3 => exact .dk (hd _ _ h1) h2 (RepVs.imp hl hf ht hd hr xs _ h3)
  | .ref n, _, h => by
    cases h with
    | ref h1 => exact .ref (hr _ _ h1)
theorem RepVs.imp (hl : ∀ a vs, LstAt ro fr H a vs → LstAt ro' fr' H' a vs) (hf : ∀ a vs, FlsAt K ro fr H a vs → FlsAt K ro' fr' H' a vs) (ht : ∀ a vs, TupAt K ro fr H a vs → TupAt K ro' fr' H' a vs) (hd : ∀ a vs, DctAt ro fr H a vs → DctAt ro' fr' H' a vs)
    (hr : ∀ (n : Nat) (a : Addr), ro[n]? = some a → ro'[n]? = some a) : ∀ (xs : List PV) (vs : List V), RepVs K ro fr H xs vs → RepVs K ro' fr' H' xs vs
  | [], _, h => by cases h; exact .nil
  | x :: xs, _, h => by
    cases h with
    | cons h1 h2 => exact .cons (RepV.imp hl hf ht hd hr x _ h1) (RepVs.imp hl hf ht hd hr xs _ h2)
end
theorem RepV.ext (e : Ext ro H ro' H') {x : PV} {v : V} (h : RepV K ro fr H x v) : RepV K ro' fr H' x v :=
  RepV.imp (fun _ _ => LstAt.ext e) (fun _ _ => FlsAt.ext e) (fun _ _ => TupAt.ext e) (fun _ _ => DctAt.ext e) (fun _ _ => e.get) x v h
theorem RepVs.ext (e : Ext ro H ro' H') {x : List PV} {v : List V} (h : RepVs K ro fr H x v) : RepVs K ro' fr H' x v :=
  RepVs.imp (fun _ _ => LstAt.ext e) (fun _ _ => FlsAt.ext e) (fun _ _ => TupAt.ext e) (fun _ _ => DctAt.ext e) (fun _ _ => e.get) x v h
theorem RepVs.length {xs : List PV} {vs : List V} (h : RepVs K ro fr H xs vs) : xs.length = vs.length := by
  induction xs generalizing vs with
  | nil => cases h; rfl
  | cons x xs ih =>
    cases h with
    | cons h1 h2 => simp [ih h2]
theorem RepVs.get {xs : List PV} {vs : List V} (h : RepVs K ro fr H xs vs) {i : Nat} {x : PV} (e : xs[i]? = some x) : ∃ v, vs[i]? = some v ∧ RepV K ro fr H x v := by
  induction xs generalizing vs i with
  | nil => simp at e
  | cons y ys ih =>
    cases h with
    | cons h1 h2 =>
      cases i with
      | zero => simp at e; subst e; exact ⟨_, by simp, h1⟩
      | succ i =>
        obtain ⟨v, q1, q2⟩ := ih h2 (by simpa using e)
        exact ⟨v, by simpa using q1, q2⟩
theorem RepVs.get' {xs : List PV} {vs : List V} (h : RepVs K ro fr H xs vs) {i : Nat} {v : V} (e : vs[i]? = some v) : ∃ x, xs[i]? = some x ∧ RepV K ro fr H x v := by
  have hl := h.length
  obtain ⟨hi, _⟩ := List.getElem?_eq_some_iff.mp e
  have hx : xs[i]? = some (xs[i]'(by omega)) := List.getElem?_eq_getElem _
  obtain ⟨w, h1, h2⟩ := h.get hx
  rw [e] at h1; cases h1
  exact ⟨_, hx, h2⟩
theorem RepVs.append {xs ys : List PV} {vs us : List V} (h : RepVs K ro fr H xs vs) (g : RepVs K ro fr H ys us) : RepVs K ro fr H (xs ++ ys) (vs ++ us) := by
  induction xs generalizing vs with
  | nil => cases h; exact g
  | cons x xs ih =>
    cases h with
    | cons h1 h2 => exact .cons h1 (ih h2)
theorem RepVs.take {xs : List PV} {vs : List V} (n : Nat) (h : RepVs K ro fr H xs vs) : RepVs K ro fr H (xs.take n) (vs.take n) := by
  induction xs generalizing vs n with
  | nil => cases h; simp; exact .nil
  | cons x xs ih =>
    cases h with
    | cons h1 h2 =>
      cases n with
      | zero => exact .nil
      | succ n => exact .cons h1 (ih n h2)
theorem RepVs.drop {xs : List PV} {vs : List V} (n : Nat) (h : RepVs K ro fr H xs vs) : RepVs K ro fr H (xs.drop n) (vs.drop n) := by
  induction xs generalizing vs n with
  | nil => cases h; simp; exact .nil
  | cons x xs ih =>
    cases n with
    | zero => exact h
    | succ n =>
      cases h with
      | cons h1 h2 => exact ih n h2
theorem RepVs.reverse {xs : List PV} {vs : List V} (h : RepVs K ro fr H xs vs) : RepVs K ro fr H xs.reverse vs.reverse := by
  induction xs generalizing vs with
  | nil => cases h; exact .nil
  | cons x xs ih =>
    cases h with
    | cons h1 h2 => rw [List.reverse_cons, List.reverse_cons]; exact (ih h2).append (.cons h1 .nil)
theorem RepVs.dropLast {xs : List PV} {vs : List V} (h : RepVs K ro fr H xs vs) : RepVs K ro fr H xs.dropLast vs.dropLast := by
  rw [List.dropLast_eq_take, List.dropLast_eq_take, h.length]
  exact h.take _
theorem RepVs.set {xs : List PV} {vs : List V} {x : PV} {v : V} (i : Nat) (h : RepVs K ro fr H xs vs) (g : RepV K ro fr H x v) : RepVs K ro fr H (xs.set i x) (vs.set i v) := by
  induction xs generalizing vs i with
  | nil => cases h; exact .nil
  | cons y ys ih =>
    cases h with
    | cons h1 h2 =>
      cases i with
      | zero => exact .cons g h2
      | succ i => exact .cons h1 (ih i h2)
end

/-- a cell of the store lies at a -/
def RepC (K : PySem.W.Frag) (ro fr : List Addr) (H : Hp) : Cell → Addr → Prop
  | .lst xs, a => ∃ vs, H a = some (.lst vs) ∧ RepVs K ro fr H xs vs
  | .dk ks xs, a => ∃ kvs, H a = some (.dK kvs) ∧ kvs.map (·.1) = ks ∧ RepVs K ro fr H xs (kvs.map (·.2))
  | .dt ks xs, a => ∃ kvs, H a = some (.dT kvs) ∧ kvs.map (·.1) = ks ∧ RepVs K ro fr H xs (kvs.map (·.2))

structure RepS (K : PySem.W.Frag) (ro fr : List Addr) (H : Hp) (st : Sto) : Prop where
  len : ro.length = st.length
  nd : ro.Nodup
  dis : ∀ a ∈ ro, a ∉ fr
  at_ : ∀ (n : Nat) c a, st[n]? = some c → ro[n]? = some a → RepC K ro fr H c a
  frT : ∀ a ∈ fr, ∃ o, H a = some o

def RepEnv (K : PySem.W.Frag) (ro fr : List Addr) (H : Hp) (env : Envp) (σ : St) : Prop := env.length = σ.length ∧ ∀ (i : Nat) x, env[i]? = some (some x) → ∃ v, σ[i]? = some (some v) ∧ RepV K ro fr H x v

section
variable {K : PySem.W.Frag} {ro ro' fr : List Addr} {H H' : Hp} {st : Sto} {env : Envp} {σ : St}
theorem RepEnv.ext (e : Ext ro H ro' H') (h : RepEnv K ro fr H env σ) : RepEnv K ro' fr H' env σ :=
  ⟨h.1, fun i x q => let ⟨v, h1, h2⟩ := h.2 i x q; ⟨v, h1, h2.ext e⟩⟩
theorem RepC.some {c : Cell} {a : Addr} (h : RepC K ro fr H c a) : ∃ o, H a = some o := by
  cases c with
  | lst xs => obtain ⟨vs, h, _⟩ := h; exact ⟨_, h⟩
  | dk ks xs => obtain ⟨vs, h, _⟩ := h; exact ⟨_, h⟩
  | dt ks xs => obtain ⟨vs, h, _⟩ := h; exact ⟨_, h⟩
theorem RepC.ext (e : Ext ro H ro' H') {c : Cell} {a : Addr} (h : RepC K ro fr H c a) (he : H' a = H a) : RepC K ro' fr H' c a := by
  cases c with
  | lst xs => obtain ⟨vs, h, g⟩ := h; exact ⟨vs, he.trans h, g.ext e⟩
  | dk ks xs => obtain ⟨vs, h, g, k⟩ := h; exact ⟨vs, he.trans h, g, k.ext e⟩
  | dt ks xs => obtain ⟨vs, h, g, k⟩ := h; exact ⟨vs, he.trans h, g, k.ext e⟩
theorem RepS.addr (S : RepS K ro fr H st) {n : Nat} {c : Cell} (h : st[n]? = some c) : ∃ a, ro[n]? = some a ∧ RepC K ro fr H c a := by
  have hl := S.len
  have hi := (List.getElem?_eq_some_iff.mp h).1
  have hx : ro[n]? = some (ro[n]'(by omega)) := List.getElem?_eq_getElem _
  exact ⟨_, hx, S.at_ n c _ h hx⟩
theorem RepS.tracked (S : RepS K ro fr H st) {a : Addr} (h : a ∈ ro) : ∃ o, H a = some o := by
  obtain ⟨n, hn⟩ := List.getElem?_of_mem h
  have hl := S.len
  have hi := (List.getElem?_eq_some_iff.mp hn).1
  have hx : st[n]? = some (st[n]'(by omega)) := List.getElem?_eq_getElem _
  exact (S.at_ n _ a hx hn).some
theorem RepS.fresh (S : RepS K ro fr H st) {p : Addr} (h : H p = none) : p ∉ ro ∧ p ∉ fr := by
  refine ⟨fun m => ?_, fun m => ?_⟩
  · obtain ⟨o, e⟩ := S.tracked m; rw [h] at e; cases e
  · obtain ⟨o, e⟩ := S.frT p m; rw [h] at e; cases e
/-- a new object that never changes -/
theorem ext_new {p : Addr} {o : HO} (h : H p = none) : Ext ro H ro (upd H p o) :=
  ⟨⟨[], by simp⟩, fun a o' e _ => by rw [upd_ne (ne_of_none e h)]; exact e, fun _ m => .inl m⟩
theorem RepS.new (S : RepS K ro fr H st) {p : Addr} {o : HO} (h : H p = none) : RepS K ro fr (upd H p o) st where
  len := S.len
  nd := S.nd
  dis := S.dis
  at_ := fun n c a h1 h2 => by
    have q := S.at_ n c a h1 h2
    obtain ⟨u, hu⟩ := q.some
    exact q.ext (ext_new h) (by rw [upd_ne (ne_of_none hu h)])
  frT := fun a m => by
    obtain ⟨u, hu⟩ := S.frT a m
    exact ⟨u, by rw [upd_ne (ne_of_none hu h)]; exact hu⟩
/-- a new cell -/
theorem ext_cell {p : Addr} {o : HO} (h : H p = none) : Ext ro H (ro ++ [p]) (upd H p o) :=
  ⟨⟨[p], rfl⟩, fun a o' e _ => by rw [upd_ne (ne_of_none e h)]; exact e, fun a m => by
    rcases List.mem_append.mp m with m | m
    · exact .inl m
    · rw [List.mem_singleton] at m; subst m; exact .inr h⟩
theorem RepS.cell (S : RepS K ro fr H st) {p : Addr} {o : HO} {c : Cell} (h : H p = none) (hc : RepC K (ro ++ [p]) fr (upd H p o) c p) : RepS K (ro ++ [p]) fr (upd H p o) (st ++ [c]) where
  len := by simp [S.len]
  nd := by
    rw [List.nodup_append]
    refine ⟨S.nd, by simp, fun a ha b hb => ?_⟩
    rw [List.mem_singleton] at hb; subst hb
    intro e; subst e; exact (S.fresh h).1 ha
  dis := fun a m => by
    rcases List.mem_append.mp m with m | m
    · exact S.dis a m
    · rw [List.mem_singleton] at m; subst m; exact (S.fresh h).2
  at_ := fun n c' a h1 h2 => by
    have hl := S.len
    by_cases hn : n < st.length
    · rw [List.getElem?_append_left hn] at h1
      rw [List.getElem?_append_left (by omega)] at h2
      have q := S.at_ n c' a h1 h2
      obtain ⟨u, hu⟩ := q.some
      exact q.ext (ext_cell h) (by rw [upd_ne (ne_of_none hu h)])
    · rw [List.getElem?_append_right (by omega)] at h1 h2
      have e : n - st.length = 0 := by
        have := (List.getElem?_eq_some_iff.mp h1).1
        simp at this; omega
      have e2 : n - ro.length = 0 := by omega
      rw [e] at h1; rw [e2] at h2
      simp at h1 h2; subst h1; subst h2
      exact hc
  frT := fun a m => by
    obtain ⟨u, hu⟩ := S.frT a m
    exact ⟨u, by rw [upd_ne (ne_of_none hu h)]; exact hu⟩
/-- a cell is changed -/
theorem ext_set {a : Addr} {o : HO} (h : a ∈ ro) : Ext ro H ro (upd H a o) :=
  ⟨⟨[], by simp⟩, fun b o' e n => by rw [upd_ne (show b ≠ a from fun z => n (by rw [z]; exact h))]; exact e, fun _ m => .inl m⟩
theorem RepS.set (S : RepS K ro fr H st) {n : Nat} {a : Addr} {o : HO} {c : Cell} (hn : ro[n]? = some a) (hc : RepC K ro fr (upd H a o) c a) : RepS K ro fr (upd H a o) (st.set n c) where
  len := by simp [S.len]
  nd := S.nd
  dis := S.dis
  at_ := fun m c' b h1 h2 => by
    have hl := S.len
    by_cases e : m = n
    · subst e
      rw [hn] at h2; cases h2
      have hi := (List.getElem?_eq_some_iff.mp hn).1
      rw [List.getElem?_set_self (by omega)] at h1
      cases h1; exact hc
    · rw [List.getElem?_set_ne (Ne.symm e)] at h1
      have q := S.at_ m c' b h1 h2
      refine q.ext (ext_set (List.mem_of_getElem? hn)) ?_
      rw [upd_ne]
      intro z; subst z
      have h3 := (List.getElem?_eq_some_iff.mp hn).1
      have h4 := (List.getElem?_eq_some_iff.mp h2).1
      exact e ((List.getElem?_inj h4 S.nd).mp (h2.trans hn.symm))
  frT := fun b m => by
    obtain ⟨u, hu⟩ := S.frT b m
    by_cases e : b = a
    · subst e; exact ⟨_, upd_same⟩
    · exact ⟨u, by rw [upd_ne e]; exact hu⟩
end
end Pv

/-! Pv2: judgements over values without a heap. -/
namespace Pv
open PySem PySem.Spec L2

abbrev WE := Envp → Sto → (PV → Sto → Prop) → Prop
abbrev WA := Envp → Sto → (List PV → Sto → Prop) → Prop
abbrev WT := Envp → Sto → (Bool → Sto → Prop) → Prop
abbrev WG := PV → Envp → Sto → (Envp → Sto → Prop) → Prop
structure EndsP where
  nx : Envp → Sto → Prop
  rt : PV → Sto → Prop
  bk : Envp → Sto → Prop := fun _ _ => False
  ct : Envp → Sto → Prop := fun _ _ => False
abbrev WS := EndsP → Envp → Sto → Prop

/-- the weakest readings -/
def tW (X : Cx) (e : Expr) : TE := fun σ H Q => ∀ pins s, Inv X pins σ H s → wpAny (model X.prog X.w) X.A (eval e X.env) (EP X pins σ Q) X.xe s
def tWA (X : Cx) (es : List Expr) : TA := fun σ H Q => ∀ (pos : Pos) pins s, Inv X pins σ H s → wpAny (model X.prog X.w) X.A (spliced (backTo pos (starEach es X.env))) (AP X pins σ Q) X.xe s
def tWT (X : Cx) (e : Expr) : TT := fun σ H Q => ∀ pins s, Inv X pins σ H s → wpAny (model X.prog X.w) X.A (isTrue e X.env (eval e X.env)) (TP X pins σ Q) X.xe s
def tWW (X : Cx) (e : Expr) : TT := fun σ H Q => ∀ whole pins s, Inv X pins σ H s → wpAny (model X.prog X.w) X.A (isTrue e X.env whole) (TP X pins σ Q) X.xe s
def tWS (X : Cx) (st : Stmt) : TS := fun D σ H => ∀ pins s, Inv X pins σ H s → wpAny (model X.prog X.w) X.A (exec st X.env) (SP X pins D) X.xe s
def tWSs (X : Cx) (st : List Stmt) : TS := fun D σ H => ∀ pins s, Inv X pins σ H s → wpAny (model X.prog X.w) X.A (execs st X.env) (SP X pins D) X.xe s
def tWG (X : Cx) (tg : Expr) : TG := fun v σ H Q => ∀ pins s u, Inv X pins σ H s → RelV v u → wpAny (model X.prog X.w) X.A (assign tg X.env u) (fun _ s' => ∃ σ' H', Inv X pins σ' H' s' ∧ Q σ' H') X.xe s
def tWGs (X : Cx) (ts : List Expr) : TGs := fun vs σ H Q => ∀ pins s us, Inv X pins σ H s → Vals vs us → wpAny (model X.prog X.w) X.A (assignInOrder ((assignEach ts X.env).map (·.2)) us) (fun _ s' => ∃ σ' H', Inv X pins σ' H' s' ∧ Q σ' H') X.xe s
def tWI (X : Cx) (tg iter : Expr) : TI := fun σ H R => ∀ pins s, Inv X pins σ H s → wpAny (model X.prog X.w) X.A (eval iter X.env) (fun v s1 => wpAny (model X.prog X.w) X.A (pyIter v) (PIE X pins σ tg R) X.xe s1) X.xe s
def rW (X : Cx) (f : Value → Value → Sem Value) : R2 := fun x y H Q => ∀ pins s σ v u, Inv X pins σ H s → RelV x v → RelV y u → wpAny (model X.prog X.w) X.A (f v u) (EP X pins σ Q) X.xe s
theorem pe_W (X : Cx) (e : Expr) : PE X e (tW X e) := ⟨fun pins s _ _ _ I h => h pins s I⟩
theorem pa_W (X : Cx) (e : List Expr) : PA X e (tWA X e) := ⟨fun pos pins s _ _ _ I h => h pos pins s I⟩
theorem pt_W (X : Cx) (e : Expr) : PT X e (tWT X e) := ⟨fun pins s _ _ _ I h => h pins s I⟩
theorem pw_W (X : Cx) (e : Expr) : PW X e (tWW X e) := ⟨fun wh pins s _ _ _ I h => h wh pins s I⟩
theorem ps_W (X : Cx) (e : Stmt) : PS X e (tWS X e) := ⟨fun pins s _ _ _ I h => h pins s I⟩
theorem pss_W (X : Cx) (e : List Stmt) : PSs X e (tWSs X e) := ⟨fun pins s _ _ _ I h => h pins s I⟩
theorem pg_W (X : Cx) (e : Expr) : PG X e (tWG X e) := ⟨fun pins s _ _ _ u _ I r h => h pins s u I r⟩
theorem pgs_W (X : Cx) (e : List Expr) : PGs X e (tWGs X e) := ⟨fun pins s _ _ _ u _ I r h => h pins s u I r⟩
theorem pi_W (X : Cx) (tg e : Expr) : PI X tg e (tWI X tg e) := ⟨fun pins s _ _ _ I h => h pins s I⟩
theorem op_W (X : Cx) (f : Value → Value → Sem Value) : OpR X f (rW X f) := fun pins s σ H x y v u Q I r1 r2 h => h pins s σ v u I r1 r2
section
variable {X : Cx} {e iter tg : Expr} {es : List Expr} {st : Stmt} {sts : List Stmt} {σ : L2.St} {H : Hp}
theorem toW {t : TE} {Q : VK} (p : PE X e t) (h : t σ H Q) : tW X e σ H Q := fun pins s I => p.run pins s σ H Q I h
theorem toWA {t : TA} {Q} (p : PA X es t) (h : t σ H Q) : tWA X es σ H Q := fun pos pins s I => p.run pos pins s σ H Q I h
theorem toWT {t : TT} {Q} (p : PT X e t) (h : t σ H Q) : tWT X e σ H Q := fun pins s I => p.run pins s σ H Q I h
theorem toWW {t : TT} {Q} (p : PW X e t) (h : t σ H Q) : tWW X e σ H Q := fun wh pins s I => p.run wh pins s σ H Q I h
theorem toWS {t : TS} {D} (p : PS X st t) (h : t D σ H) : tWS X st D σ H := fun pins s I => p.run pins s σ H D I h
theorem toWSs {t : TS} {D} (p : PSs X sts t) (h : t D σ H) : tWSs X sts D σ H := fun pins s I => p.run pins s σ H D I h
theorem toWG {t : TG} {v Q} (p : PG X e t) (h : t v σ H Q) : tWG X e v σ H Q := fun pins s u I r => p.run pins s σ H v u Q I r h
theorem toWGs {t : TGs} {v Q} (p : PGs X es t) (h : t v σ H Q) : tWGs X es v σ H Q := fun pins s u I r => p.run pins s σ H v u Q I r h
theorem toWI {t : TI} {Q} (p : PI X tg iter t) (h : t σ H Q) : tWI X tg iter σ H Q := fun pins s I => p.run pins s σ H Q I h
theorem toRW {f : Value → Value → Sem Value} {r : R2} {x y : V} {Q : VK} (p : OpR X f r) (h : r x y H Q) : rW X f x y H Q := fun pins s σ v u I r1 r2 => p pins s σ H x y v u Q I r1 r2 h
theorem EP.mono {pins : List (Addr × Obj)} {Q Q' : VK} (hQ : ∀ v H, Q v H → Q' v H) {u s} (h : EP X pins σ Q u s) : EP X pins σ Q' u s := let ⟨v, H', I, r, q⟩ := h; ⟨v, H', I, r, hQ _ _ q⟩
theorem tW.mono {Q Q' : VK} (h : tW X e σ H Q) (hQ : ∀ v H, Q v H → Q' v H) : tW X e σ H Q' := fun pins s I => thn (h pins s I) fun _ _ => EP.mono hQ
theorem tWA.mono {Q Q' : List V → Hp → Prop} (h : tWA X es σ H Q) (hQ : ∀ v H, Q v H → Q' v H) : tWA X es σ H Q' := fun pos pins s I => thn (h pos pins s I) fun _ _ ⟨v, H', I, r, q⟩ => ⟨v, H', I, r, hQ _ _ q⟩
theorem tWT.mono {Q Q' : Bool → Hp → Prop} (h : tWT X e σ H Q) (hQ : ∀ v H, Q v H → Q' v H) : tWT X e σ H Q' := fun pins s I => thn (h pins s I) fun _ _ ⟨H', I, q⟩ => ⟨H', I, hQ _ _ q⟩
theorem tWW.mono {Q Q' : Bool → Hp → Prop} (h : tWW X e σ H Q) (hQ : ∀ v H, Q v H → Q' v H) : tWW X e σ H Q' := fun wh pins s I => thn (h wh pins s I) fun _ _ ⟨H', I, q⟩ => ⟨H', I, hQ _ _ q⟩
theorem SP.mono {pins : List (Addr × Obj)} {D D' : Ends} (h1 : ∀ σ H, D.nx σ H → D'.nx σ H) (h2 : ∀ v H, D.rt v H → D'.rt v H) (h3 : ∀ σ H, D.bk σ H → D'.bk σ H) (h4 : ∀ σ H, D.ct σ H → D'.ct σ H) {f : Flow} {s : Shared} (h : SP X pins D f s) : SP X pins D' f s := by
  cases f with
  | next => obtain ⟨a, b, c, d⟩ := h; exact ⟨a, b, c, h1 _ _ d⟩
  | brk => obtain ⟨a, b, c, d⟩ := h; exact ⟨a, b, c, h3 _ _ d⟩
  | cont => obtain ⟨a, b, c, d⟩ := h; exact ⟨a, b, c, h4 _ _ d⟩
  | ret u => obtain ⟨a, b, c, d, e, g⟩ := h; exact ⟨a, b, c, d, e, h2 _ _ g⟩
theorem tWS.mono {D D' : Ends} (h : tWS X st D σ H) (h1 : ∀ σ H, D.nx σ H → D'.nx σ H) (h2 : ∀ v H, D.rt v H → D'.rt v H) (h3 : ∀ σ H, D.bk σ H → D'.bk σ H) (h4 : ∀ σ H, D.ct σ H → D'.ct σ H) : tWS X st D' σ H := fun pins s I => thn (h pins s I) fun _ _ => SP.mono h1 h2 h3 h4
theorem tWSs.mono {D D' : Ends} (h : tWSs X sts D σ H) (h1 : ∀ σ H, D.nx σ H → D'.nx σ H) (h2 : ∀ v H, D.rt v H → D'.rt v H) (h3 : ∀ σ H, D.bk σ H → D'.bk σ H) (h4 : ∀ σ H, D.ct σ H → D'.ct σ H) : tWSs X sts D' σ H := fun pins s I => thn (h pins s I) fun _ _ => SP.mono h1 h2 h3 h4
theorem tWG.mono {v} {Q Q' : L2.St → Hp → Prop} (h : tWG X e v σ H Q) (hQ : ∀ v H, Q v H → Q' v H) : tWG X e v σ H Q' := fun pins s u I r => thn (h pins s u I r) fun _ _ ⟨v, H', I, q⟩ => ⟨v, H', I, hQ _ _ q⟩
theorem tWGs.mono {v} {Q Q' : L2.St → Hp → Prop} (h : tWGs X es v σ H Q) (hQ : ∀ v H, Q v H → Q' v H) : tWGs X es v σ H Q' := fun pins s u I r => thn (h pins s u I r) fun _ _ ⟨v, H', I, q⟩ => ⟨v, H', I, hQ _ _ q⟩
theorem rW.mono {f : Value → Value → Sem Value} {x y : V} {Q Q' : VK} (h : rW X f x y H Q) (hQ : ∀ v H, Q v H → Q' v H) : rW X f x y H Q' := fun pins s σ v u I r1 r2 => thn (h pins s σ v u I r1 r2) fun _ _ => EP.mono hQ
theorem PIE.mono {pins : List (Addr × Obj)} {R R' : It → Hp → Prop} (hR : ∀ J H, R J H → R' J H) {v s} (h : PIE X pins σ tg R v s) : PIE X pins σ tg R' v s := let ⟨a, b, c, d, e, f, g, i, j, k, l⟩ := h; ⟨a, b, c, d, e, f, g, i, j, k, hR _ _ l⟩
theorem tWI.mono {R R' : It → Hp → Prop} (h : tWI X tg iter σ H R) (hR : ∀ J H, R J H → R' J H) : tWI X tg iter σ H R' := fun pins s I => thn (h pins s I) fun _ _ h1 => thn h1 fun _ _ => PIE.mono hR
end

/-- what is wanted of a value behind, told of a value without a heap -/
def Post (K : PySem.W.Frag) (ro fr : List Addr) (H : Hp) (Q : PV → Sto → Prop) : VK := fun v H' => ∃ ro' x st', Ext ro H ro' H' ∧ RepS K ro' fr H' st' ∧ RepV K ro' fr H' x v ∧ Q x st'
def PostA (K : PySem.W.Frag) (ro fr : List Addr) (H : Hp) (Q : List PV → Sto → Prop) : List V → Hp → Prop := fun v H' => ∃ ro' x st', Ext ro H ro' H' ∧ RepS K ro' fr H' st' ∧ RepVs K ro' fr H' x v ∧ Q x st'
def PostT (K : PySem.W.Frag) (ro fr : List Addr) (H : Hp) (Q : Bool → Sto → Prop) : Bool → Hp → Prop := fun b H' => ∃ ro' st', Ext ro H ro' H' ∧ RepS K ro' fr H' st' ∧ Q b st'
def PostN (K : PySem.W.Frag) (ro fr : List Addr) (H : Hp) (Q : Envp → Sto → Prop) : L2.St → Hp → Prop := fun σ H' => ∃ ro' env st', Ext ro H ro' H' ∧ RepS K ro' fr H' st' ∧ RepEnv K ro' fr H' env σ ∧ Q env st'
def endsOf (K : PySem.W.Frag) (ro fr : List Addr) (H : Hp) (D : EndsP) : Ends := ⟨PostN K ro fr H D.nx, Post K ro fr H D.rt, PostN K ro fr H D.bk, PostN K ro fr H D.ct⟩
section
variable {K : PySem.W.Frag} {ro ro' fr : List Addr} {H H' : Hp}
theorem Post.ext (e : Ext ro H ro' H') {Q : PV → Sto → Prop} {v H2} (h : Post K ro' fr H' Q v H2) : Post K ro fr H Q v H2 := let ⟨a, b, c, d, f⟩ := h; ⟨a, b, c, e.trans d, f⟩
theorem PostA.ext (e : Ext ro H ro' H') {Q : List PV → Sto → Prop} {v H2} (h : PostA K ro' fr H' Q v H2) : PostA K ro fr H Q v H2 := let ⟨a, b, c, d, f⟩ := h; ⟨a, b, c, e.trans d, f⟩
theorem PostT.ext (e : Ext ro H ro' H') {Q : Bool → Sto → Prop} {v H2} (h : PostT K ro' fr H' Q v H2) : PostT K ro fr H Q v H2 := let ⟨a, b, d, f⟩ := h; ⟨a, b, e.trans d, f⟩
theorem PostN.ext (e : Ext ro H ro' H') {Q : Envp → Sto → Prop} {v H2} (h : PostN K ro' fr H' Q v H2) : PostN K ro fr H Q v H2 := let ⟨a, b, c, d, f⟩ := h; ⟨a, b, c, e.trans d, f⟩
end

/-- the judgements -/
structure DE (X : Cx) (e : Expr) (w : WE) : Prop where
  run : ∀ ro fr σ H env st Q, RepEnv X.K ro fr H env σ → RepS X.K ro fr H st → w env st Q → tW X e σ H (Post X.K ro fr H Q)
instance {X : Cx} {e : Expr} {w : WE} : CoeFun (DE X e w) (fun _ => ∀ ro fr σ H env st Q, RepEnv X.K ro fr H env σ → RepS X.K ro fr H st → w env st Q → tW X e σ H (Post X.K ro fr H Q)) := ⟨DE.run⟩
structure DA (X : Cx) (es : List Expr) (w : WA) : Prop where
  run : ∀ ro fr σ H env st Q, RepEnv X.K ro fr H env σ → RepS X.K ro fr H st → w env st Q → tWA X es σ H (PostA X.K ro fr H Q)
instance {X : Cx} {es : List Expr} {w : WA} : CoeFun (DA X es w) (fun _ => ∀ ro fr σ H env st Q, RepEnv X.K ro fr H env σ → RepS X.K ro fr H st → w env st Q → tWA X es σ H (PostA X.K ro fr H Q)) := ⟨DA.run⟩
structure DT (X : Cx) (e : Expr) (w : WT) : Prop where
  run : ∀ ro fr σ H env st Q, RepEnv X.K ro fr H env σ → RepS X.K ro fr H st → w env st Q → tWT X e σ H (PostT X.K ro fr H Q)
instance {X : Cx} {e : Expr} {w : WT} : CoeFun (DT X e w) (fun _ => ∀ ro fr σ H env st Q, RepEnv X.K ro fr H env σ → RepS X.K ro fr H st → w env st Q → tWT X e σ H (PostT X.K ro fr H Q)) := ⟨DT.run⟩
structure DW (X : Cx) (e : Expr) (w : WT) : Prop where
  run : ∀ ro fr σ H env st Q, RepEnv X.K ro fr H env σ → RepS X.K ro fr H st → w env st Q → tWW X e σ H (PostT X.K ro fr H Q)
instance {X : Cx} {e : Expr} {w : WT} : CoeFun (DW X e w) (fun _ => ∀ ro fr σ H env st Q, RepEnv X.K ro fr H env σ → RepS X.K ro fr H st → w env st Q → tWW X e σ H (PostT X.K ro fr H Q)) := ⟨DW.run⟩
structure DS (X : Cx) (s : Stmt) (w : WS) : Prop where
  run : ∀ ro fr σ H env st D, RepEnv X.K ro fr H env σ → RepS X.K ro fr H st → w D env st → tWS X s (endsOf X.K ro fr H D) σ H
instance {X : Cx} {s : Stmt} {w : WS} : CoeFun (DS X s w) (fun _ => ∀ ro fr σ H env st D, RepEnv X.K ro fr H env σ → RepS X.K ro fr H st → w D env st → tWS X s (endsOf X.K ro fr H D) σ H) := ⟨DS.run⟩
structure DSs (X : Cx) (s : List Stmt) (w : WS) : Prop where
  run : ∀ ro fr σ H env st D, RepEnv X.K ro fr H env σ → RepS X.K ro fr H st → w D env st → tWSs X s (endsOf X.K ro fr H D) σ H
instance {X : Cx} {s : List Stmt} {w : WS} : CoeFun (DSs X s w) (fun _ => ∀ ro fr σ H env st D, RepEnv X.K ro fr H env σ → RepS X.K ro fr H st → w D env st → tWSs X s (endsOf X.K ro fr H D) σ H) := ⟨DSs.run⟩
/-- σ and σ' part at most at the slots sl -/
def Apart (sl : List Nat) (σ σ' : L2.St) : Prop := σ'.length = σ.length ∧ ∀ i, i ∉ sl → σ'[i]? = σ[i]?
structure DG (X : Cx) (tg : Expr) (sl : List Nat) (g : WG) : Prop where
  run : ∀ ro fr σ H env st x v Q, RepEnv X.K ro fr H env σ → RepS X.K ro fr H st → RepV X.K ro fr H x v → g x env st Q → tWG X tg v σ H (fun σ' H' => Apart sl σ σ' ∧ PostN X.K ro fr H Q σ' H')
instance {X : Cx} {tg : Expr} {sl : List Nat} {g : WG} : CoeFun (DG X tg sl g) (fun _ => ∀ ro fr σ H env st x v Q, RepEnv X.K ro fr H env σ → RepS X.K ro fr H st → RepV X.K ro fr H x v → g x env st Q → tWG X tg v σ H (fun σ' H' => Apart sl σ σ' ∧ PostN X.K ro fr H Q σ' H')) := ⟨DG.run⟩
structure DGs (X : Cx) (ts : List Expr) (sl : List Nat) (g : List PV → Envp → Sto → (Envp → Sto → Prop) → Prop) : Prop where
  run : ∀ ro fr σ H env st xs vs Q, RepEnv X.K ro fr H env σ → RepS X.K ro fr H st → RepVs X.K ro fr H xs vs → g xs env st Q →
  tWGs X ts vs σ H (fun σ' H' => Apart sl σ σ' ∧ PostN X.K ro fr H Q σ' H')
instance {X : Cx} {ts : List Expr} {sl : List Nat} {g : List PV → Envp → Sto → (Envp → Sto → Prop) → Prop} : CoeFun (DGs X ts sl g) (fun _ => ∀ ro fr σ H env st xs vs Q, RepEnv X.K ro fr H env σ → RepS X.K ro fr H st → RepVs X.K ro fr H xs vs → g xs env st Q →
  tWGs X ts vs σ H (fun σ' H' => Apart sl σ σ' ∧ PostN X.K ro fr H Q σ' H')) := ⟨DGs.run⟩

/-- an operator, by values -/
structure DOp (X : Cx) (f : Value → Value → Sem Value) (r : PV → PV → Sto → (PV → Sto → Prop) → Prop) : Prop where
  run : ∀ ro fr H st x y v u Q, RepS X.K ro fr H st → RepV X.K ro fr H x v → RepV X.K ro fr H y u → r x y st Q → rW X f v u H (Post X.K ro fr H Q)
instance {X : Cx} {f : Value → Value → Sem Value} {r : PV → PV → Sto → (PV → Sto → Prop) → Prop} : CoeFun (DOp X f r) (fun _ => ∀ ro fr H st x y v u Q, RepS X.K ro fr H st → RepV X.K ro fr H x v → RepV X.K ro fr H y u → r x y st Q → rW X f v u H (Post X.K ro fr H Q)) := ⟨DOp.run⟩

/-! ### the words of a reading -/
def wVar (i : Nat) : WE := fun env st Q => ∃ x, env[i]? = some (some x) ∧ Q x st
def wC (x : PV) : WE := fun _ st Q => Q x st
def wOp (r : PV → PV → Sto → (PV → Sto → Prop) → Prop) (wa wb : WE) : WE := fun env st Q => wa env st fun x st1 => wb env st1 fun y st2 => r x y st2 Q
def wNil : WA := fun _ st Q => Q [] st
def wCons (wa : WE) (wr : WA) : WA := fun env st Q => wa env st fun x st1 => wr env st1 fun xs st2 => Q (x :: xs) st2
def wTup (wa : WA) : WE := fun env st Q => wa env st fun xs st1 => xs.length ≤ sizeLine ∧ Q (.tup xs) st1
/-- a new list: a cell where m says so -/
def newL (m : Bool) (xs : List PV) (st : Sto) (Q : PV → Sto → Prop) : Prop := match m with
  | true => Q (.ref st.length) (st ++ [.lst xs])
  | false => Q (.lst xs) st
def wLst (m : Bool) (wa : WA) : WE := fun env st Q => wa env st fun xs st1 => xs.length ≤ sizeLine ∧ newL m xs st1 Q
def wIf (wt : WT) (wa wb : WE) : WE := fun env st Q => wt env st fun b st1 => if b = true then wa env st1 Q else wb env st1 Q
def tAndP (t u : WT) : WT := fun env st Q => t env st fun b st1 => if b = true then u env st1 Q else Q false st1
def tOrP (t u : WT) : WT := fun env st Q => t env st fun b st1 => if b = true then Q true st1 else u env st1 Q
def tNotP (t : WT) : WT := fun env st Q => t env st fun b st1 => Q (!b) st1
/-- a test by the bool that an expression gives -/
def tValP (w : WE) : WT := fun env st Q => w env st fun x st1 => ∃ b, x = .bl b ∧ Q b st1
def sNext : WS := fun D env st => D.nx env st
def sSeq (t u : WS) : WS := fun D env st => t { D with nx := u D } env st
def sIf (c : WT) (t u : WS) : WS := fun D env st => c env st fun b st1 => if b = true then t D env st1 else u D env st1
def sRet (w : WE) : WS := fun D env st => w env st D.rt
def sRetN : WS := fun D _ st => D.rt .non st
def sDrop (w : WE) : WS := fun D env st => w env st fun _ st1 => D.nx env st1
def sBrk : WS := fun D env st => D.bk env st
def sCnt : WS := fun D env st => D.ct env st
def sNever : WS := fun _ _ _ => False
def gNm (i : Nat) : WG := fun x env st Q => Q (env.set i (some x)) st
def gNl : List PV → Envp → Sto → (Envp → Sto → Prop) → Prop := fun xs env st Q => xs = [] ∧ Q env st
def gCn (g : WG) (gs : List PV → Envp → Sto → (Envp → Sto → Prop) → Prop) : List PV → Envp → Sto → (Envp → Sto → Prop) → Prop := fun xs env st Q => ∃ y ys, xs = y :: ys ∧ g y env st fun env1 st1 => gs ys env1 st1 Q
def gTp (n : Nat) (gs : List PV → Envp → Sto → (Envp → Sto → Prop) → Prop) : WG := fun x env st Q => ∃ xs, x = .tup xs ∧ xs.length = n ∧ gs xs env st Q
def sAsg (w : WE) (g : WG) : WS := fun D env st => w env st fun x st1 => g x env st1 D.nx

section
variable {X : Cx} {a b e : Expr} {es : List Expr} {wa wb w : WE} {ws wr : WA} {t u : WT} {pos : Pos}
theorem d_var {i : Nat} {x : Str} (hN : X.N[i]? = some x) (hv : Vis X.env.scope x) (hd : (x == ("__debug__" : Str)) = false := by decide +kernel) (hcd : (x == ("__classdict__" : Str)) = false := by decide +kernel) : DE X (.Name x pos) (wVar i) := by
  refine ⟨?_⟩
  intro ro fr σ H env st Q E S ⟨x, hx, q⟩
  obtain ⟨v, h1, h2⟩ := E.2 i x hx
  exact toW (pe_var hN hv hd hcd) ⟨v, h1, ro, x, st, .refl, S, h2, q⟩
theorem d_of {t : TE} {x : PV} {v : V} (p : PE X e t) (ht : ∀ σ H Q, Q v H → t σ H Q) (r : ∀ ro fr H, RepV X.K ro fr H x v) : DE X e (wC x) :=
  .mk fun ro fr σ H env st Q E S q => toW p (ht _ _ _ ⟨ro, x, st, .refl, S, r _ _ _, q⟩)
theorem d_int {i j} : DE X (.Constant (.int i) j pos) (wC (.int i)) := d_of (v := .int i) pe_int (fun _ _ _ q => q) fun _ _ _ => .int i
theorem d_bl {b j} : DE X (.Constant (.bool b) j pos) (wC (.bl b)) := d_of (v := .bl b) pe_bl (fun _ _ _ q => q) fun _ _ _ => .bl b
theorem d_non {j} : DE X (.Constant .none j pos) (wC .non) := d_of (v := .non) pe_non (fun _ _ _ q => q) fun _ _ _ => .non
theorem d_str {x j} : DE X (.Constant (.str x) j pos) (wC (.str x)) := d_of (v := .str x) pe_str (fun _ _ _ q => q) fun _ _ _ => .str x
theorem d_glob {x : Str} {y : PV} {v : V} {u : Value} (hg : Gl X x) (hm : X.mg x = some u) (r : RelV v u) (ry : ∀ ro fr H, RepV X.K ro fr H y v) (hd : (x == ("__debug__" : Str)) = false := by decide +kernel) : DE X (.Name x pos) (wC y) :=
  d_of (v := v) (pe_glob hg hm r hd) (fun _ _ _ q => q) ry
theorem d_op {op : Operator} {r} (ho : DOp X (binaryOp op) r) (ha : DE X a wa) (hb : DE X b wb) : DE X (.BinOp a op b pos) (wOp r wa wb) := by
  refine ⟨?_⟩
  intro ro fr σ H env st Q E S h
  refine toW (pe_op (op_W X _) (pe_W X a) (pe_W X b)) ?_
  refine tW.mono (ha _ _ _ _ _ _ _ E S h) fun v H1 ⟨ro1, x, st1, e1, S1, r1, h1⟩ => ?_
  refine tW.mono (hb _ _ _ _ _ _ _ (E.ext e1) S1 h1) fun v2 H2 ⟨ro2, y, st2, e2, S2, r2, h2⟩ => ?_
  exact rW.mono (ho _ _ _ _ _ _ _ _ _ S2 (r1.ext e2) r2 h2) fun _ _ h => h.ext (e1.trans e2)
theorem d_cmp {op : CmpOp} {r} (ho : DOp X (compareOp op) r) (ha : DE X a wa) (hb : DE X b wb) (hm : behindInMarks op b = false) : DE X (.Compare a [op] [b] pos) (wOp r wa wb) := by
  refine ⟨?_⟩
  intro ro fr σ H env st Q E S h
  refine toW (pe_cmpR (op_W X _) (pe_W X a) (pe_W X b) hm) ?_
  refine tW.mono (ha _ _ _ _ _ _ _ E S h) fun v H1 ⟨ro1, x, st1, e1, S1, r1, h1⟩ => ?_
  refine tW.mono (hb _ _ _ _ _ _ _ (E.ext e1) S1 h1) fun v2 H2 ⟨ro2, y, st2, e2, S2, r2, h2⟩ => ?_
  exact rW.mono (ho _ _ _ _ _ _ _ _ _ S2 (r1.ext e2) r2 h2) fun _ _ h => h.ext (e1.trans e2)
theorem dt_cmp {op : CmpOp} {r} (ho : DOp X (compareOp op) r) (ha : DE X a wa) (hb : DE X b wb) (hm : behindInMarks op b = false) : DT X (.Compare a [op] [b] pos) (tValP (wOp r wa wb)) := by
  refine ⟨?_⟩
  intro ro fr σ H env st Q E S h
  refine toWT (pt_cmpR (op_W X _) (pe_W X a) (pe_W X b) hm) ?_
  refine tW.mono (ha _ _ _ _ _ _ _ E S h) fun v H1 ⟨ro1, x, st1, e1, S1, r1, h1⟩ => ?_
  refine tW.mono (hb _ _ _ _ _ _ _ (E.ext e1) S1 h1) fun v2 H2 ⟨ro2, y, st2, e2, S2, r2, h2⟩ => ?_
  refine rW.mono (ho _ _ _ _ _ _ _ _ _ S2 (r1.ext e2) r2 h2) fun v3 H3 ⟨ro3, z, st3, e3, S3, r3, k, hz, q⟩ => ?_
  subst hz
  cases r3
  exact ⟨k, rfl, ro3, st3, (e1.trans e2).trans e3, S3, q⟩
theorem dt_val (h : DE X e w) (he : ∀ whole, isTrue e X.env whole = (do let v ← whole; standAt e.pos; holding [v] (truthy v)) := by exact ist_no (by rfl)) : DT X e (tValP w) := by
  refine ⟨?_⟩
  intro ro fr σ H env st Q E S hw
  refine toWT (pt_val (pe_W X e) he) ?_
  refine tW.mono (h _ _ _ _ _ _ _ E S hw) fun v H1 ⟨ro1, x, st1, e1, S1, r1, k, hz, q⟩ => ?_
  subst hz
  cases r1
  exact ⟨k, rfl, ro1, st1, e1, S1, q⟩
theorem dt_w (h : DW X e t) : DT X e t := .mk fun ro fr σ H env st Q E S hw => toWT (pw_W X e).pt (h _ _ _ _ _ _ _ E S hw)
theorem dw_and1 (ha : DT X a t) : DW X (.BoolOp .And [a] pos) t := .mk fun ro fr σ H env st Q E S hw => toWW (pw_and1 (pt_W X a)) (ha _ _ _ _ _ _ _ E S hw)
theorem dw_or1 (ha : DT X a t) : DW X (.BoolOp .Or [a] pos) t := .mk fun ro fr σ H env st Q E S hw => toWW (pw_or1 (pt_W X a)) (ha _ _ _ _ _ _ _ E S hw)
theorem dw_and {rest : List Expr} (ha : DT X a t) (hb : DW X (.BoolOp .And (b :: rest) pos) u) : DW X (.BoolOp .And (a :: b :: rest) pos) (tAndP t u) := by
  refine ⟨?_⟩
  intro ro fr σ H env st Q E S hw
  refine toWW (pw_and (pt_W X a) (pw_W X _)) ?_
  refine tWT.mono (ha _ _ _ _ _ _ _ E S hw) fun c H1 ⟨ro1, st1, e1, S1, q⟩ => ?_
  cases c with
  | true => exact tWW.mono (hb _ _ _ _ _ _ _ (E.ext e1) S1 q) fun _ _ h => h.ext e1
  | false => exact ⟨ro1, st1, e1, S1, q⟩
theorem dw_or {rest : List Expr} (ha : DT X a t) (hb : DW X (.BoolOp .Or (b :: rest) pos) u) : DW X (.BoolOp .Or (a :: b :: rest) pos) (tOrP t u) := by
  refine ⟨?_⟩
  intro ro fr σ H env st Q E S hw
  refine toWW (pw_or (pt_W X a) (pw_W X _)) ?_
  refine tWT.mono (ha _ _ _ _ _ _ _ E S hw) fun c H1 ⟨ro1, st1, e1, S1, q⟩ => ?_
  cases c with
  | true => exact ⟨ro1, st1, e1, S1, q⟩
  | false => exact tWW.mono (hb _ _ _ _ _ _ _ (E.ext e1) S1 q) fun _ _ h => h.ext e1
theorem dt_not (ha : DT X a t) : DT X (.UnaryOp .Not a pos) (tNotP t) := by
  refine ⟨?_⟩
  intro ro fr σ H env st Q E S hw
  refine toWT (pt_not (pt_W X a)) ?_
  exact tWT.mono (ha _ _ _ _ _ _ _ E S hw) fun c H1 ⟨ro1, st1, e1, S1, q⟩ => ⟨ro1, st1, e1, S1, q⟩
theorem d_if {c : Expr} (hc : DT X c t) (ha : DE X a wa) (hb : DE X b wb) : DE X (.IfExp c a b pos) (wIf t wa wb) := by
  refine ⟨?_⟩
  intro ro fr σ H env st Q E S hw
  refine toW (pe_ifExp (pt_W X c) (pe_W X a) (pe_W X b)) ?_
  refine tWT.mono (hc _ _ _ _ _ _ _ E S hw) fun c H1 ⟨ro1, st1, e1, S1, q⟩ => ?_
  cases c with
  | true => exact tW.mono (ha _ _ _ _ _ _ _ (E.ext e1) S1 q) fun _ _ h => h.ext e1
  | false => exact tW.mono (hb _ _ _ _ _ _ _ (E.ext e1) S1 q) fun _ _ h => h.ext e1
/-- arguments -/
theorem da_nil : DA X [] wNil := .mk fun ro fr σ H env st Q E S q => toWA pa_nil ⟨ro, [], st, .refl, S, .nil, q⟩
theorem da_cons (ha : DE X e wa) (hr : DA X es wr) (hs : starEach (e :: es) X.env = (false, eval e X.env) :: starEach es X.env := by exact star_cons (by rfl)) : DA X (e :: es) (wCons wa wr) := by
  refine ⟨?_⟩
  intro ro fr σ H env st Q E S hw
  refine toWA (pa_cons (pe_W X e) (pa_W X es) hs) ?_
  refine tW.mono (ha _ _ _ _ _ _ _ E S hw) fun v H1 ⟨ro1, x, st1, e1, S1, r1, h1⟩ => ?_
  refine tWA.mono (hr _ _ _ _ _ _ _ (E.ext e1) S1 h1) fun v2 H2 ⟨ro2, y, st2, e2, S2, r2, h2⟩ => ?_
  exact ⟨ro2, x :: y, st2, e1.trans e2, S2, .cons (r1.ext e2) r2, h2⟩
theorem new_lst {K : PySem.W.Frag} {ro fr : List Addr} {H : Hp} {st : Sto} {xs : List PV} {vs : List V} {p : Addr} (m : Bool) {Q : PV → Sto → Prop} (S : RepS K ro fr H st) (r : RepVs K ro fr H xs vs) (hp : H p = none) (q : newL m xs st Q) :
    Post K ro fr H Q (.ref p) (upd H p (.lst vs)) := by
  cases m with
  | false => exact ⟨ro, .lst xs, st, ext_new hp, S.new hp, .lst ⟨upd_same, S.fresh hp⟩ (r.ext (ext_new hp)), q⟩
  | true =>
    refine ⟨ro ++ [p], .ref st.length, _, ext_cell hp, S.cell hp (c := .lst xs) ⟨vs, upd_same, r.ext (ext_cell hp)⟩, .ref ?_, q⟩
    rw [← S.len]; simp
theorem new_tup {K : PySem.W.Frag} {ro fr : List Addr} {H : Hp} {st : Sto} {xs : List PV} {vs : List V} {p : Addr} {Q : PV → Sto → Prop} (S : RepS K ro fr H st) (r : RepVs K ro fr H xs vs) (hp : H p = none) (q : Q (.tup xs) st) :
    Post K ro fr H Q (.ref p) (upd H p (.tup vs)) := ⟨ro, .tup xs, st, ext_new hp, S.new hp, .tup (.inl ⟨.inl upd_same, S.fresh hp⟩) (r.ext (ext_new hp)), q⟩
theorem d_tup {k} (ha : DA X es ws) : DE X (.Tuple es k pos) (wTup ws) := by
  refine ⟨?_⟩
  intro ro fr σ H env st Q E S hw
  refine toW (pe_tup (pa_W X es)) ?_
  refine tWA.mono (ha _ _ _ _ _ _ _ E S hw) fun v H1 ⟨ro1, x, st1, e1, S1, r1, h1, h2⟩ => ⟨by rw [← r1.length]; exact h1, fun p hp => ?_⟩
  exact (new_tup S1 r1 hp h2).ext e1
theorem d_lst (m : Bool) (ha : DA X es ws) : DE X (.List es pos) (wLst m ws) := by
  refine ⟨?_⟩
  intro ro fr σ H env st Q E S hw
  refine toW (pe_lst (pa_W X es)) ?_
  refine tWA.mono (ha _ _ _ _ _ _ _ E S hw) fun v H1 ⟨ro1, x, st1, e1, S1, r1, h1, h2⟩ => ⟨by rw [← r1.length]; exact h1, fun p hp => ?_⟩
  exact (new_lst m S1 r1 hp h2).ext e1
end

/-! ### statements -/
section
variable {X : Cx} {st st1 : Stmt} {sts : List Stmt} {e tg : Expr} {w : WE} {t u : WS} {c : WT} {g : WG} {pos : Pos}
theorem ds_nil : DSs X [] sNext := .mk fun ro fr σ H env st D E S h => toWSs pss_nil ⟨ro, env, st, .refl, S, E, h⟩
theorem ds_one (h : DS X st t) : DSs X [st] t := .mk fun ro fr σ H env sto D E S hw => toWSs (pss_one (ps_W X st)) (h _ _ _ _ _ _ _ E S hw)
theorem ds_cons (h1 : DS X st t) (h2 : DSs X sts u) : DSs X (st :: sts) (sSeq t u) := by
  refine ⟨?_⟩
  intro ro fr σ H env sto D E S hw
  refine toWSs (pss_cons (ps_W X st) (pss_W X sts)) ?_
  refine tWS.mono (h1 _ _ _ _ _ _ _ E S hw) ?_ (fun _ _ h => h) (fun _ _ h => h) (fun _ _ h => h)
  rintro σ' H' ⟨ro1, env1, sto1, e1, S1, E1, h⟩
  exact tWSs.mono (h2 _ _ _ _ _ _ _ E1 S1 h) (fun _ _ h => h.ext e1) (fun _ _ h => h.ext e1) (fun _ _ h => h.ext e1) (fun _ _ h => h.ext e1)
theorem ds_if {a b : List Stmt} {cE : Expr} (hc : DT X cE c) (ha : DSs X a t) (hb : DSs X b u) : DS X (.If cE a b pos) (sIf c t u) := by
  refine ⟨?_⟩
  intro ro fr σ H env sto D E S hw
  refine toWS (ps_if (pt_W X cE) (pss_W X a) (pss_W X b)) ?_
  refine tWT.mono (hc _ _ _ _ _ _ _ E S hw) fun k H1 ⟨ro1, st1, e1, S1, q⟩ => ?_
  cases k with
  | true => exact tWSs.mono (ha _ _ _ _ _ _ _ (E.ext e1) S1 q) (fun _ _ h => h.ext e1) (fun _ _ h => h.ext e1) (fun _ _ h => h.ext e1) (fun _ _ h => h.ext e1)
  | false => exact tWSs.mono (hb _ _ _ _ _ _ _ (E.ext e1) S1 q) (fun _ _ h => h.ext e1) (fun _ _ h => h.ext e1) (fun _ _ h => h.ext e1) (fun _ _ h => h.ext e1)
theorem ds_ret (h : DE X e w) : DS X (.Return (some e) pos) (sRet w) := .mk fun ro fr σ H env sto D E S hw => toWS (ps_ret (pe_W X e)) (h _ _ _ _ _ _ _ E S hw)
theorem ds_retN : DS X (.Return none pos) sRetN := .mk fun ro fr σ H env sto D E S hw => toWS ps_retN ⟨ro, .non, sto, .refl, S, .non, hw⟩
theorem ds_expr (h : DE X e w) (hs : swapsWith e none pos.line X.env = pure false := by exact swaps_no (by rfl)) : DS X (.Expr e pos) (sDrop w) := by
  refine ⟨?_⟩
  intro ro fr σ H env sto D E S hw
  refine toWS (ps_expr (pe_W X e) hs) ?_
  exact tW.mono (h _ _ _ _ _ _ _ E S hw) fun v H1 ⟨ro1, x, st1, e1, S1, r1, h1⟩ => ⟨ro1, env, st1, e1, S1, E.ext e1, h1⟩
theorem ds_pass : DS X (.Pass pos) sNext := .mk fun ro fr σ H env st D E S h => toWS ps_pass ⟨ro, env, st, .refl, S, E, h⟩
theorem ds_break : DS X (.Break pos) sBrk := .mk fun ro fr σ H env st D E S h => toWS ps_break ⟨ro, env, st, .refl, S, E, h⟩
theorem ds_continue : DS X (.Continue pos) sCnt := .mk fun ro fr σ H env st D E S h => toWS ps_continue ⟨ro, env, st, .refl, S, E, h⟩
theorem ds_never : DS X st sNever := .mk fun _ _ _ _ _ _ _ _ _ h => h.elim
theorem dss_never : DSs X sts sNever := .mk fun _ _ _ _ _ _ _ _ _ h => h.elim
theorem Apart.set {σ : L2.St} {i : Nat} {v : Option V} : Apart [i] σ (σ.set i v) := ⟨by simp, fun j hj => by rw [List.getElem?_set_ne]; simp at hj; exact fun z => hj z.symm⟩
theorem RepEnv.set {K : PySem.W.Frag} {ro fr : List Addr} {H : Hp} {env : Envp} {σ : L2.St} {i : Nat} {x : PV} {v : V} (E : RepEnv K ro fr H env σ) (r : RepV K ro fr H x v) : RepEnv K ro fr H (env.set i (some x)) (σ.set i (some v)) := by
  refine ⟨by simp [E.1], fun j y h => ?_⟩
  by_cases e : i = j
  · subst e
    have hi : i < env.length := by
      have := (List.getElem?_eq_some_iff.mp h).1
      simpa using this
    rw [List.getElem?_set_self hi] at h
    cases h
    exact ⟨v, List.getElem?_set_self (by rw [← E.1]; exact hi), r⟩
  · rw [List.getElem?_set_ne e] at h
    obtain ⟨u, h1, h2⟩ := E.2 j y h
    exact ⟨u, by rw [List.getElem?_set_ne e]; exact h1, h2⟩
theorem dg_name {i : Nat} {x : Str} (hN : X.N.Nodup) (hi : X.N[i]? = some x) (hx : Loc X.env.scope x) (hf : X.fn x = true ∨ X.env.scope.names.lookup x = some .local := by first | exact .inl rfl | exact .inr rfl | assumption) : DG X (.Name x pos) [i] (gNm i) := by
  refine ⟨?_⟩
  intro ro fr σ H env st x v Q E S r h
  exact toWG (pg_name hN hi hx hf) ⟨.set, ro, _, st, .refl, S, E.set r, h⟩
theorem dgs_nil : DGs X [] [] gNl := by
  refine ⟨?_⟩
  intro ro fr σ H env st xs vs Q E S r ⟨h, q⟩
  subst h
  cases r
  exact toWGs pgs_nil ⟨rfl, ⟨rfl, fun _ _ => rfl⟩, ro, env, st, .refl, S, E, q⟩
theorem Apart.trans {sl sl' : List Nat} {σ σ' σ2 : L2.St} (h : Apart sl σ σ') (g : Apart sl' σ' σ2) : Apart (sl ++ sl') σ σ2 :=
  ⟨g.1.trans h.1, fun i hi => (g.2 i fun z => hi (List.mem_append_right _ z)).trans (h.2 i fun z => hi (List.mem_append_left _ z))⟩
theorem dgs_cons {es : List Expr} {sl sl' : List Nat} {gs} (h1 : DG X e sl g) (h2 : DGs X es sl' gs) (hs : (assignEach (e :: es) X.env).map (·.2) = assign e X.env :: (assignEach es X.env).map (·.2) := by exact asg_cons (by rfl)) : DGs X (e :: es) (sl ++ sl') (gCn g gs) := by
  refine ⟨?_⟩
  intro ro fr σ H env st xs vs Q E S r ⟨y, ys, hx, q⟩
  subst hx
  cases r with
  | @cons _ _ v vs r1 r2 =>
    refine toWGs (pgs_cons (pg_W X e) (pgs_W X es) hs) ⟨v, vs, rfl, ?_⟩
    refine tWG.mono (h1 _ _ _ _ _ _ _ _ _ E S r1 q) fun σ1 H1 ⟨a1, ro1, env1, st1, e1, S1, E1, q1⟩ => ?_
    exact tWGs.mono (h2 _ _ _ _ _ _ _ _ _ E1 S1 (r2.ext e1) q1) fun σ2 H2 ⟨a2, q2⟩ => ⟨a1.trans a2, q2.ext e1⟩
theorem dg_tup {es : List Expr} {sl : List Nat} {gs} {k n : Nat} (hc : X.calm = true) (h : DGs X es sl gs) (hn : (assignEach es X.env).length = n := by exact asg_len.trans (by rfl)) (hst : (assignEach es X.env).findIdx? (·.1) = none := by exact asg_find (by rfl)) : DG X (.Tuple es k pos) sl (gTp n gs) := by
  refine ⟨?_⟩
  intro ro fr σ H env st x v Q E S r ⟨xs, hx, hl, q⟩
  subst hx
  cases r with
  | @tup a _ vs h1 h2 =>
    exact toWG (pg_tup hc (pgs_W X es) hn hst) ⟨a, vs, rfl, h1.sq, by rw [← h2.length]; exact hl, h _ _ _ _ _ _ _ _ _ E S h2 q⟩
theorem ds_asg {sl : List Nat} (he : DE X e w) (hg : DG X tg sl g) (hs : swapsWithSole [tg] e pos.line X.env = pure false := by first | exact swaps_sole (by rfl) | rfl) (hw : swappedStores [tg] e X.env = pure none := by first | exact swst_no (by rfl) | rfl)
    (h1 : (assignEach [tg] X.env).map (·.2) = [assign tg X.env] := by exact asg_one (by rfl)) : DS X (.Assign [tg] e pos) (sAsg w g) := by
  refine ⟨?_⟩
  intro ro fr σ H env sto D E S hw'
  refine toWS (ps_asg (pe_W X e) (pg_W X tg) hs hw h1) ?_
  refine tW.mono (he _ _ _ _ _ _ _ E S hw') fun v H1 ⟨ro1, x, st1, e1, S1, r1, q1⟩ => ?_
  exact tWG.mono (hg _ _ _ _ _ _ _ _ _ (E.ext e1) S1 r1 q1) fun σ2 H2 ⟨_, q2⟩ => q2.ext e1
theorem ds_set {i : Nat} {x : Str} {pos' : Pos} (hN : X.N.Nodup) (hi : X.N[i]? = some x) (hx : Loc X.env.scope x) (he : DE X e w) (hs : swapsWith e (some (.Name x pos')) pos.line X.env = pure false := by first | exact swaps_no (by rfl) | rfl) (hf : X.fn x = true ∨ X.env.scope.names.lookup x = some .local := by first | exact .inl rfl | exact .inr rfl | assumption) :
    DS X (.Assign [.Name x pos'] e pos) (sAsg w (gNm i)) := by
  refine ⟨?_⟩
  intro ro fr σ H env sto D E S hw
  refine toWS (ps_set hN hi hx (pe_W X e) hs hf) ?_
  refine tW.mono (he _ _ _ _ _ _ _ E S hw) fun v H1 ⟨ro1, y, st1, e1, S1, r1, q1⟩ => ?_
  exact ⟨ro1, _, st1, e1, S1, (E.ext e1).set r1, q1⟩
end
end Pv

/-! Pv3: loops, comprehensions, calls, defs. -/
namespace Pv
open PySem PySem.Spec L2

/-! ### more carrying -/
section
variable {K : PySem.W.Frag} {ro ro' fr fr' : List Addr} {H H' : Hp}
theorem Rd.some {a : Addr} {u : HO} (h : Rd H a u) : ∃ o, H a = some o := by
  rcases h with h | ⟨o, h⟩
  · exact ⟨_, h⟩
  · exact ⟨_, h⟩
/-- more set aside, of what isn't there yet -/
theorem RepV.more (h : ∀ a ∈ fr', a ∈ fr ∨ H a = none) : ∀ {x : PV} {v : V}, RepV K ro fr H x v → RepV K ro fr' H x v := fun {x v} r => by
  have key : ∀ {a u}, Rd H a u → a ∉ fr → a ∉ fr' := fun {a u} r n m => (h a m).elim n fun z => by obtain ⟨o, e⟩ := Rd.some r; rw [z] at e; cases e
  exact RepV.imp (fun a vs q => ⟨q.1, q.2.1, key (.inl q.1) q.2.2⟩) (fun a vs q => q.imp (fun ⟨q1, q2, q3⟩ => ⟨q1, q2, key q1 q3⟩) id) (fun a vs q => q.imp (fun ⟨q1, q2, q3⟩ => ⟨q1, q2, key q1 q3⟩) id) (fun a vs q => ⟨q.1, q.2.1, key (.inl q.1) q.2.2⟩) (fun _ _ q => q) x v r
theorem RepVs.more (h : ∀ a ∈ fr', a ∈ fr ∨ H a = none) : ∀ {x : List PV} {v : List V}, RepVs K ro fr H x v → RepVs K ro fr' H x v := fun {x v} r => by
  have key : ∀ {a u}, Rd H a u → a ∉ fr → a ∉ fr' := fun {a u} r n m => (h a m).elim n fun z => by obtain ⟨o, e⟩ := Rd.some r; rw [z] at e; cases e
  exact RepVs.imp (fun a vs q => ⟨q.1, q.2.1, key (.inl q.1) q.2.2⟩) (fun a vs q => q.imp (fun ⟨q1, q2, q3⟩ => ⟨q1, q2, key q1 q3⟩) id) (fun a vs q => q.imp (fun ⟨q1, q2, q3⟩ => ⟨q1, q2, key q1 q3⟩) id) (fun a vs q => ⟨q.1, q.2.1, key (.inl q.1) q.2.2⟩) (fun _ _ q => q) x v r
/-- an object set aside is changed -/
theorem RepV.own {D : Addr} {o : HO} (hD : D ∈ fr) {x : PV} {v : V} (r : RepV K ro fr H x v) : RepV K ro fr (upd H D o) x v := by
  have key : ∀ {a u}, Rd H a u → a ∉ fr → Rd (upd H D o) a u := fun {a u} r n => by
    have e : a ≠ D := fun z => n (z ▸ hD)
    rcases r with r | ⟨o, r⟩
    · exact .inl (by rw [upd_ne e]; exact r)
    · exact .inr ⟨o, by rw [upd_ne e]; exact r⟩
  have ne : ∀ {a}, a ∉ fr → a ≠ D := fun {a} n z => n (z ▸ hD)
  exact RepV.imp (fun a vs q => ⟨by rw [upd_ne (ne q.2.2)]; exact q.1, q.2⟩) (fun a vs q => q.imp (fun ⟨q1, q2, q3⟩ => ⟨key q1 q3, q2, q3⟩) id) (fun a vs q => q.imp (fun ⟨q1, q2, q3⟩ => ⟨key q1 q3, q2, q3⟩) id) (fun a vs q => ⟨by rw [upd_ne (ne q.2.2)]; exact q.1, q.2⟩) (fun _ _ q => q) x v r
theorem RepVs.own {D : Addr} {o : HO} (hD : D ∈ fr) {x : List PV} {v : List V} (r : RepVs K ro fr H x v) : RepVs K ro fr (upd H D o) x v := by
  induction x generalizing v with
  | nil => cases r; exact .nil
  | cons y ys ih =>
    cases r with
    | cons r1 r2 => exact .cons (RepV.own hD r1) (ih r2)
/-- less set aside, one cell more -/
theorem RepV.less (h : ∀ a ∈ fr', a ∈ fr) (hn : ∀ a ∈ ro', a ∈ ro ∨ a ∈ fr) (hr : ∀ (n : Nat) a, ro[n]? = some a → ro'[n]? = some a) {x : PV} {v : V} (r : RepV K ro fr H x v) : RepV K ro' fr' H x v := by
  have key : ∀ {a}, a ∉ ro → a ∉ fr → a ∉ ro' := fun {a} n m z => (hn a z).elim n m
  exact RepV.imp (fun a vs q => ⟨q.1, key q.2.1 q.2.2, fun z => q.2.2 (h a z)⟩) (fun a vs q => q.imp (fun ⟨q1, q2, q3⟩ => ⟨q1, key q2 q3, fun z => q3 (h a z)⟩) id) (fun a vs q => q.imp (fun ⟨q1, q2, q3⟩ => ⟨q1, key q2 q3, fun z => q3 (h a z)⟩) id) (fun a vs q => ⟨q.1, key q.2.1 q.2.2, fun z => q.2.2 (h a z)⟩) hr x v r
theorem RepVs.less (h : ∀ a ∈ fr', a ∈ fr) (hn : ∀ a ∈ ro', a ∈ ro ∨ a ∈ fr) (hr : ∀ (n : Nat) a, ro[n]? = some a → ro'[n]? = some a) {x : List PV} {v : List V} (r : RepVs K ro fr H x v) : RepVs K ro' fr' H x v := by
  induction x generalizing v with
  | nil => cases r; exact .nil
  | cons y ys ih =>
    cases r with
    | cons r1 r2 => exact .cons (RepV.less h hn hr r1) (ih r2)
theorem RepC.map {c : Cell} {a : Addr} (h : RepC K ro fr H c a) (he : H' a = H a) (hv : ∀ xs vs, RepVs K ro fr H xs vs → RepVs K ro' fr' H' xs vs) : RepC K ro' fr' H' c a := by
  cases c with
  | lst xs => obtain ⟨vs, h, g⟩ := h; exact ⟨vs, he.trans h, hv _ _ g⟩
  | dk ks xs => obtain ⟨vs, h, g, k⟩ := h; exact ⟨vs, he.trans h, g, hv _ _ k⟩
  | dt ks xs => obtain ⟨vs, h, g, k⟩ := h; exact ⟨vs, he.trans h, g, hv _ _ k⟩
theorem RepEnv.more {env : Envp} {σ : L2.St} (h : ∀ a ∈ fr', a ∈ fr ∨ H a = none) (E : RepEnv K ro fr H env σ) : RepEnv K ro fr' H env σ := ⟨E.1, fun i x q => let ⟨v, h1, h2⟩ := E.2 i x q; ⟨v, h1, h2.more h⟩⟩
theorem ext_own {D : Addr} {o : HO} (e : Ext ro H ro' H') (hD : H D = none) : Ext ro H ro' (upd H' D o) :=
  ⟨e.pre, fun a u h n => by rw [upd_ne (ne_of_none h hD)]; exact e.old a u h n, e.new⟩
variable {st : Sto}
theorem RepS.own {D : Addr} {o : HO} (S : RepS K ro fr H st) (hD : D ∈ fr) : RepS K ro fr (upd H D o) st where
  len := S.len
  nd := S.nd
  dis := S.dis
  at_ := fun n c a h1 h2 => (S.at_ n c a h1 h2).map (by rw [upd_ne]; intro z; subst z; exact S.dis a (List.mem_of_getElem? h2) hD) fun _ _ => RepVs.own hD
  frT := fun a m => by
    by_cases e : a = D
    · subst e; exact ⟨_, upd_same⟩
    · obtain ⟨u, h⟩ := S.frT a m; exact ⟨u, by rw [upd_ne e]; exact h⟩
/-- a new object is set aside -/
theorem RepS.aside {D : Addr} {o : HO} (S : RepS K ro fr H st) (hD : H D = none) : RepS K ro (D :: fr) (upd H D o) st where
  len := S.len
  nd := S.nd
  dis := fun a m z => by
    rcases List.mem_cons.mp z with z | z
    · subst z; exact (S.fresh hD).1 m
    · exact S.dis a m z
  at_ := fun n c a h1 h2 => by
    have q := S.at_ n c a h1 h2
    obtain ⟨u, hu⟩ := q.some
    refine (q.map (H' := H) (fr' := D :: fr) (ro' := ro) rfl fun _ _ r => r.more fun b m => (List.mem_cons.mp m).elim (fun z => .inr (z ▸ hD)) .inl).ext (ext_new hD) (by rw [upd_ne (ne_of_none hu hD)])
  frT := fun a m => by
    by_cases e : a = D
    · subst e; exact ⟨_, upd_same⟩
    · obtain ⟨u, h⟩ := S.frT a ((List.mem_cons.mp m).resolve_left e); exact ⟨u, by rw [upd_ne e]; exact h⟩
theorem RepS.back {D : Addr} (S : RepS K ro (D :: fr) H st) : RepS K ro fr H st where
  len := S.len
  nd := S.nd
  dis := fun a m z => S.dis a m (List.mem_cons_of_mem _ z)
  at_ := fun n c a h1 h2 => (S.at_ n c a h1 h2).map rfl fun _ _ => RepVs.less (fun a => List.mem_cons_of_mem _) (fun a => .inl) (fun _ _ h => h)
  frT := fun a m => S.frT a (List.mem_cons_of_mem _ m)
/-- what was set aside is a list now -/
theorem end_lst {ro1 : List Addr} {H1 : Hp} {D : Addr} {xs : List PV} {vs : List V} (m : Bool) {Q : PV → Sto → Prop} (e : Ext ro1 H1 ro H) (hD1 : H1 D = none) (hf : D ∉ fr) (S : RepS K ro (D :: fr) H st) (hD : H D = some (.lst vs)) (r : RepVs K ro (D :: fr) H xs vs) (q : newL m xs st Q) :
    Post K ro1 fr H1 Q (.ref D) H := by
  have hn : D ∉ ro := fun z => S.dis D z List.mem_cons_self
  cases m with
  | false =>
    exact ⟨ro, .lst xs, st, e, S.back, .lst ⟨hD, hn, hf⟩ (r.less (fun a => List.mem_cons_of_mem _) (fun a => .inl) fun _ _ h => h), q⟩
  | true =>
    have hg : ∀ (n : Nat) a, ro[n]? = some a → (ro ++ [D])[n]? = some a := fun n a h => by
      rw [List.getElem?_append_left (List.getElem?_eq_some_iff.mp h).1]; exact h
    have hm : ∀ a ∈ ro ++ [D], a ∈ ro ∨ a ∈ D :: fr := fun a m => (List.mem_append.mp m).elim .inl fun z => .inr (by rw [List.mem_singleton] at z; subst z; exact List.mem_cons_self)
    have lift : ∀ xs vs, RepVs K ro (D :: fr) H xs vs → RepVs K (ro ++ [D]) fr H xs vs := fun xs vs r => r.less (fun a => List.mem_cons_of_mem _) hm hg
    have q' : Q (.ref st.length) (st ++ [Cell.lst xs]) := q
    refine ⟨ro ++ [D], .ref st.length, st ++ [Cell.lst xs], ⟨?_, e.old, fun a m => ?_⟩, ⟨by simp [S.len], ?_, ?_, ?_, S.back.frT⟩, .ref (by rw [← S.len]; simp), q'⟩
    · obtain ⟨t, rfl⟩ := e.pre; exact ⟨t ++ [D], by simp⟩
    · rcases List.mem_append.mp m with m | m
      · exact e.new a m
      · rw [List.mem_singleton] at m; subst m; exact .inr hD1
    · rw [List.nodup_append]
      refine ⟨S.nd, by simp, fun a ha b hb => ?_⟩
      rw [List.mem_singleton] at hb; subst hb
      intro z; subst z; exact hn ha
    · intro a m
      rcases List.mem_append.mp m with m | m
      · exact S.back.dis a m
      · rw [List.mem_singleton] at m; subst m; exact hf
    · intro n c a h1 h2
      have hl := S.len
      by_cases hi : n < st.length
      · rw [List.getElem?_append_left hi] at h1
        rw [List.getElem?_append_left (by omega)] at h2
        exact (S.at_ n c a h1 h2).map rfl lift
      · rw [List.getElem?_append_right (by omega)] at h1 h2
        have e1 : n - st.length = 0 := by
          have := (List.getElem?_eq_some_iff.mp h1).1
          simp at this; omega
        have e2 : n - ro.length = 0 := by omega
        rw [e1] at h1; rw [e2] at h2
        simp at h1 h2; subst h1; subst h2
        exact ⟨vs, hD, lift _ _ r⟩
end

/-! ### what is walked -/
structure PIt where
  items : List PV
  guard : Sto → Prop
def RepIt (K : PySem.W.Frag) (ro fr : List Addr) (H : Hp) (J : It) (p : PIt) : Prop := ∀ fr' ro' H' st', (∀ a ∈ fr', a ∈ fr ∨ H a = none) → Ext ro H ro' H' → RepS K ro' fr' H' st' → p.guard st' →
  (∀ i y, p.items[i]? = some y → J.go i H' ∧ ∀ v H'', J.yld i H' v H'' → Ext ro' H' ro' H'' ∧ RepS K ro' fr' H'' st' ∧ RepV K ro' fr' H'' y v) ∧ J.stop p.items.length H'
abbrev WI := Envp → Sto → (PIt → Sto → Prop) → Prop
structure DI (X : Cx) (tg iter : Expr) (w : WI) : Prop where
  run : ∀ ro fr σ H env st R, RepEnv X.K ro fr H env σ → RepS X.K ro fr H st → w env st R → tWI X tg iter σ H (fun J H' => ∃ ro' p st', Ext ro H ro' H' ∧ RepS X.K ro' fr H' st' ∧ RepIt X.K ro' fr H' J p ∧ R p st')
instance {X : Cx} {tg iter : Expr} {w : WI} : CoeFun (DI X tg iter w) (fun _ => ∀ ro fr σ H env st R, RepEnv X.K ro fr H env σ → RepS X.K ro fr H st → w env st R → tWI X tg iter σ H (fun J H' => ∃ ro' p st', Ext ro H ro' H' ∧ RepS X.K ro' fr H' st' ∧ RepIt X.K ro' fr H' J p ∧ R p st')) := ⟨DI.run⟩

def forGo (gd : Sto → Prop) (g : WG) (tb : WS) (D : EndsP) : List PV → Envp → Sto → Prop
  | [], env, st => gd st ∧ D.nx env st
  | x :: xs, env, st => gd st ∧ g x env st fun env2 st2 => tb { D with nx := forGo gd g tb D xs, ct := forGo gd g tb D xs, bk := D.nx } env2 st2
def sFor (wi : WI) (g : WG) (tb : WS) : WS := fun D env st => wi env st fun p st1 => forGo p.guard g tb D p.items env st1
def sWhile (c : WT) (tb : WS) : WS := fun D env st => ∃ W : Nat → Envp → Sto → Prop, (∃ m, W m env st) ∧ ∀ m env st, W m env st →
  c env st fun b st1 => if b = true then ∃ N : Envp → Sto → Prop, (∀ env' st', N env' st' → ∃ m', m' < m ∧ W m' env' st') ∧ tb { D with nx := N, ct := N, bk := D.nx } env st1 else D.nx env st1
section
variable {X : Cx} {tg iter c : Expr} {body : List Stmt} {wi : WI} {g : WG} {tb : WS} {t : WT} {sl : List Nat} {pos : Pos}
theorem ds_for (hp : PassesOwn (model X.prog X.w) X.A X.env X.xe) (hc : X.calm = true) (hi : DI X tg iter wi) (hg : DG X tg sl g) (hb : DSs X body tb) (hs : ∀ x, foldedSetIterable iter X.env x = pure x := by exact fold_no (by rfl)) :
    DS X (.For tg iter body [] pos) (sFor wi g tb) := by
  refine ⟨?_⟩
  intro ro fr σ H env st D E S hw
  refine toWS (ps_for hp hc (pi_W X tg iter) (pg_W X tg) (pss_W X body) hs) ?_
  refine tWI.mono (hi _ _ _ _ _ _ _ E S hw) fun J H1 ⟨ro1, p, st1, e1, S1, it, go⟩ => ?_
  refine ⟨fun i m σ' H' => ∃ ro' env' st', Ext ro1 H1 ro' H' ∧ RepS X.K ro' fr H' st' ∧ RepEnv X.K ro' fr H' env' σ' ∧ i + m = p.items.length ∧ forGo p.guard g tb D (p.items.drop i) env' st', ⟨p.items.length, ro1, env, st1, .refl, S1, E.ext e1, by omega, by simpa using go⟩, ?_⟩
  rintro i m σ' H' ⟨ro', env', st', e', S', E', hm, go'⟩
  cases hd : p.items.drop i with
  | nil =>
    rw [hd] at go'
    have hi : i = p.items.length := by
      have := List.drop_eq_nil_iff.mp hd
      omega
    have q := it fr ro' H' st' (fun a m => .inl m) e' S' go'.1
    exact .inl ⟨by rw [hi]; exact q.2, ro', env', st', e1.trans e', S', E', go'.2⟩
  | cons y ys =>
    rw [hd] at go'
    have hlt : i < p.items.length := by
      by_cases z : i < p.items.length
      · exact z
      · rw [List.drop_eq_nil_of_le (by omega)] at hd; cases hd
    have hy : p.items[i]? = some y := by
      have : (p.items.drop i)[0]? = some y := by rw [hd]; rfl
      simpa using this
    have hys : p.items.drop (i + 1) = ys := by
      have := congrArg List.tail hd
      simpa using this
    obtain ⟨gd, go'⟩ := go'
    have q := (it fr ro' H' st' (fun a m => .inl m) e' S' gd).1 i y hy
    refine .inr ⟨q.1, PostN X.K ro1 fr H1 (forGo p.guard g tb D ys), fun σ2 H2 ⟨ro2, env2, st2, e2, S2, E2, q2⟩ => ⟨m - 1, by omega, ro2, env2, st2, e2, S2, E2, by omega, by rw [hys]; exact q2⟩, fun x H2 hyl => ?_⟩
    obtain ⟨e2, S2, r2⟩ := q.2 x H2 hyl
    refine tWG.mono (hg _ _ _ _ _ _ _ _ _ (E'.ext e2) S2 r2 go') fun σ3 H3 ⟨_, ro3, env3, st3, e3, S3, E3, q3⟩ => ?_
    have ee := (e'.trans e2).trans e3
    exact tWSs.mono (hb _ _ _ _ _ _ _ E3 S3 q3) (fun _ _ h => h.ext ee) (fun _ _ h => (h.ext ee).ext e1) (fun _ _ h => (h.ext ee).ext e1) (fun _ _ h => h.ext ee)
theorem ds_while (hp : PassesOwn (model X.prog X.w) X.A X.env X.xe) (hc : DT X c t) (hb : DSs X body tb) : DS X (.While c body [] pos) (sWhile t tb) := by
  refine ⟨?_⟩
  intro ro fr σ H env st D E S ⟨W, ⟨m0, w0⟩, turn⟩
  refine toWS (ps_while hp (pt_W X c) (pss_W X body)) ?_
  refine ⟨fun m σ' H' => PostN X.K ro fr H (W m) σ' H', ⟨m0, ro, env, st, .refl, S, E, w0⟩, ?_⟩
  rintro m σ' H' ⟨ro', env', st', e', S', E', w'⟩
  refine tWT.mono (hc _ _ _ _ _ _ _ E' S' (turn m env' st' w')) fun k H1 ⟨ro1, st1, e1, S1, q⟩ => ?_
  cases k with
  | false => exact ⟨ro1, env', st1, e'.trans e1, S1, E'.ext e1, q⟩
  | true =>
    obtain ⟨N, hN, q⟩ := q
    refine ⟨PostN X.K ro fr H N, fun σ2 H2 ⟨ro2, env2, st2, e2, S2, E2, n2⟩ => ?_, ?_⟩
    · obtain ⟨m', hm, w2⟩ := hN env2 st2 n2
      exact ⟨m', hm, ro2, env2, st2, e2, S2, E2, w2⟩
    · have ee := e'.trans e1
      exact tWSs.mono (hb _ _ _ _ _ _ _ (E'.ext e1) S1 q) (fun _ _ h => h.ext ee) (fun _ _ h => h.ext ee) (fun _ _ h => h.ext ee) (fun _ _ h => h.ext ee)
end

/-! ### comprehensions -/
def wipeP (env : Envp) : List Nat → Envp
  | [] => env
  | v :: vs => (wipeP env vs).set v none
theorem wipeP_length (env : Envp) : ∀ vs : List Nat, (wipeP env vs).length = env.length
  | [] => rfl
  | v :: vs => by unfold wipeP; rw [List.length_set, wipeP_length env vs]
theorem wipeP_some {env : Envp} {i : Nat} {x : PV} : ∀ {vs : List Nat}, (wipeP env vs)[i]? = some (some x) → env[i]? = some (some x) ∧ i ∉ vs
  | [], h => ⟨h, by simp⟩
  | v :: vs, h => by
    unfold wipeP at h
    by_cases hi : v = i
    · subst hi
      by_cases hv : v < (wipeP env vs).length
      · rw [List.getElem?_set_self hv] at h; cases h
      · rw [List.getElem?_eq_none (by simpa using hv)] at h; cases h
    · rw [List.getElem?_set_ne hi] at h
      obtain ⟨h1, h2⟩ := wipeP_some h
      exact ⟨h1, by simp only [List.mem_cons, not_or]; exact ⟨fun e => hi e.symm, h2⟩⟩
theorem RepEnv.wipe {K : PySem.W.Frag} {ro fr : List Addr} {H : Hp} {env : Envp} {σ : L2.St} (E : RepEnv K ro fr H env σ) (vs : List Nat) : RepEnv K ro fr H (wipeP env vs) (wipe σ vs) := by
  refine ⟨by rw [wipeP_length, wipe_length, E.1], fun i x h => ?_⟩
  obtain ⟨h1, h2⟩ := wipeP_some h
  obtain ⟨v, q1, q2⟩ := E.2 i x h1
  exact ⟨v, by rw [wipe_out h2]; exact q1, q2⟩
theorem wipe_in {σ : L2.St} {i : Nat} (hi : i < σ.length) : ∀ {vs : List Nat}, i ∈ vs → (wipe σ vs)[i]? = some none
  | v :: vs, h => by
    unfold wipe
    by_cases e : v = i
    · subst e
      rw [List.getElem?_set_self (by rw [wipe_length]; exact hi)]
    · rw [List.getElem?_set_ne e]
      exact wipe_in hi ((List.mem_cons.mp h).resolve_left fun z => e z.symm)
theorem wipe_apart {σ σ2 : L2.St} {sl vs : List Nat} (h : Apart sl (wipe σ vs) σ2) (hs : ∀ i ∈ sl, i ∈ vs) : wipe σ2 vs = wipe σ vs := by
  have hl : σ2.length = σ.length := h.1.trans (wipe_length _ _)
  refine List.ext_getElem? fun i => ?_
  by_cases hi : i ∈ vs
  · by_cases hlt : i < σ.length
    · rw [wipe_in hlt hi, wipe_in (by omega) hi]
    · rw [List.getElem?_eq_none (by rw [wipe_length]; omega), List.getElem?_eq_none (by rw [wipe_length]; omega)]
  · rw [wipe_out hi, h.2 i fun z => hi (hs i z)]
def tWTs (X : Cx) (ifs : List Expr) : TT := fun σ H Q => ∀ pins s, Inv X pins σ H s → wpAny (model X.prog X.w) X.A (forIn ifs true fun c r => if r = true then do let ok ← isTrue c X.env (eval c X.env); pure (ForInStep.yield ok) else pure (ForInStep.yield r)) (TP X pins σ Q) X.xe s
theorem pts_W (X : Cx) (ifs : List Expr) : PTs X ifs (tWTs X ifs) := ⟨fun pins s _ _ _ I h => h pins s I⟩
theorem tWTs.mono {X : Cx} {ifs : List Expr} {σ : L2.St} {H : Hp} {Q Q' : Bool → Hp → Prop} (h : tWTs X ifs σ H Q) (hQ : ∀ v H, Q v H → Q' v H) : tWTs X ifs σ H Q' := fun pins s I => thn (h pins s I) fun _ _ ⟨H', I, q⟩ => ⟨H', I, hQ _ _ q⟩
structure DTs (X : Cx) (e : List Expr) (w : WT) : Prop where
  run : ∀ ro fr σ H env st Q, RepEnv X.K ro fr H env σ → RepS X.K ro fr H st → w env st Q → tWTs X e σ H (PostT X.K ro fr H Q)
instance {X : Cx} {e : List Expr} {w : WT} : CoeFun (DTs X e w) (fun _ => ∀ ro fr σ H env st Q, RepEnv X.K ro fr H env σ → RepS X.K ro fr H st → w env st Q → tWTs X e σ H (PostT X.K ro fr H Q)) := ⟨DTs.run⟩
def tYesP : WT := fun _ st Q => Q true st
theorem dts_nil {X : Cx} : DTs X [] tYesP := .mk fun ro fr σ H env st Q E S q pins s I => pts_nil.run pins s σ H _ I ⟨ro, st, .refl, S, q⟩
theorem dts_one {X : Cx} {c : Expr} {t : WT} (h : DT X c t) : DTs X [c] t := .mk fun ro fr σ H env st Q E S q pins s I => (pts_one (pt_W X c)).run pins s σ H _ I (h _ _ _ _ _ _ _ E S q)
def lcGo (gd : Sto → Prop) (g : WG) (tt : WT) (te : WE) (env : Envp) : List PV → List PV → Sto → (List PV → Sto → Prop) → Prop
  | [], acc, st, k => gd st ∧ k acc st
  | x :: xs, acc, st, k => gd st ∧ g x env st fun env2 st2 => tt env2 st2 fun b st3 => if b = true then te env2 st3 fun y st4 => acc.length < sizeLine ∧ lcGo gd g tt te env xs (acc ++ [y]) st4 k else lcGo gd g tt te env xs acc st3 k
def wLc (m : Bool) (wi : WI) (g : WG) (tt : WT) (te : WE) (vs : List Nat) : WE := fun env st Q => wi env st fun p st1 => lcGo p.guard g tt te (wipeP env vs) p.items [] st1 fun acc st2 => newL m acc st2 Q
section
variable {X : Cx} {tg iter elt : Expr} {ifs : List Expr} {wi : WI} {g : WG} {tt : WT} {te : WE} {sl : List Nat} {pos : Pos} {scope : Scope} {own : List (Str × Nat)}
def gAll (X : Cx) (scope : Scope) (tg : Expr) : TG := fun v σ H Q => ∀ (s : Shared) (H0 : Hp) (C : Addr) (cl : List (Str × Addr)) (fp : List Addr), tWG (X.blk s H0 scope (compEnvC scope cl C X.env) fp) tg v σ H Q
def tAll (X : Cx) (scope : Scope) (ifs : List Expr) : TT := fun σ H Q => ∀ (s : Shared) (H0 : Hp) (C : Addr) (cl : List (Str × Addr)) (fp : List Addr), tWTs (X.blk s H0 scope (compEnvC scope cl C X.env) fp) ifs σ H Q
def eAll (X : Cx) (scope : Scope) (e : Expr) : TE := fun σ H Q => ∀ (s : Shared) (H0 : Hp) (C : Addr) (cl : List (Str × Addr)) (fp : List Addr), tW (X.blk s H0 scope (compEnvC scope cl C X.env) fp) e σ H Q
theorem lc_read {ro fr : List Addr} {σ : L2.St} {H : Hp} {env : Envp} {st : Sto} {Q : PV → Sto → Prop} {vs : List Nat} (m : Bool) (hi : DI X tg iter wi)
    (hg : ∀ (s : Shared) (H : Hp) (C : Addr) (cl : List (Str × Addr)) (fp : List Addr), DG (X.blk s H scope (compEnvC scope cl C X.env) fp) tg sl g) (hsl : ∀ i ∈ sl, i ∈ vs)
    (ht : ∀ (s : Shared) (H : Hp) (C : Addr) (cl : List (Str × Addr)) (fp : List Addr), DTs (X.blk s H scope (compEnvC scope cl C X.env) fp) ifs tt)
    (he : ∀ (s : Shared) (H : Hp) (C : Addr) (cl : List (Str × Addr)) (fp : List Addr), DE (X.blk s H scope (compEnvC scope cl C X.env) fp) elt te)
    (E : RepEnv X.K ro fr H env σ) (S : RepS X.K ro fr H st) (hw : wLc m wi g tt te vs env st Q) :
    tLc (tWI X tg iter) (gAll X scope tg) (tAll X scope ifs) (eAll X scope elt) vs σ H (Post X.K ro fr H Q) := by
  refine tWI.mono (hi _ _ _ _ _ _ _ E S hw) fun J H1 ⟨ro1, p, st1, e1, S1, it, go⟩ => ?_
  intro D hD
  have hDf : D ∉ fr := (S1.fresh hD).2
  have frs : ∀ a ∈ D :: fr, a ∈ fr ∨ H1 a = none := fun a m => (List.mem_cons.mp m).elim (fun z => .inr (z ▸ hD)) .inl
  refine ⟨fun i k H' => ∃ ro' st' acc us, Ext ro1 H1 ro' H' ∧ RepS X.K ro' (D :: fr) H' st' ∧ H' D = some (.lst us) ∧ RepVs X.K ro' (D :: fr) H' acc us ∧ i + k = p.items.length ∧ lcGo p.guard g tt te (wipeP env vs) (p.items.drop i) acc st' (fun acc st2 => newL m acc st2 Q),
    ⟨p.items.length, ro1, st1, [], [], ext_new hD, S1.aside hD, upd_same, .nil, by omega, by simpa using go⟩, ?_⟩
  rintro i k H' ⟨ro', st', acc, us, e', S', hD', ra, hm, go'⟩
  cases hd : p.items.drop i with
  | nil =>
    rw [hd] at go'
    have hi : i = p.items.length := by
      have := List.drop_eq_nil_iff.mp hd
      omega
    have q := it (D :: fr) ro' H' st' frs e' S' go'.1
    exact .inl ⟨by rw [hi]; exact q.2, (end_lst m e' hD hDf S' hD' ra go'.2).ext e1⟩
  | cons y ys =>
    rw [hd] at go'
    have hlt : i < p.items.length := by
      by_cases z : i < p.items.length
      · exact z
      · rw [List.drop_eq_nil_of_le (by omega)] at hd; cases hd
    have hy : p.items[i]? = some y := by
      have : (p.items.drop i)[0]? = some y := by rw [hd]; rfl
      simpa using this
    have hys : p.items.drop (i + 1) = ys := by
      have := congrArg List.tail hd
      simpa using this
    obtain ⟨gd, go'⟩ := go'
    have q := (it (D :: fr) ro' H' st' frs e' S' gd).1 i y hy
    refine .inr ⟨q.1, fun H2 => ∃ ro' st' acc us, Ext ro1 H1 ro' H2 ∧ RepS X.K ro' (D :: fr) H2 st' ∧ H2 D = some (.lst us) ∧ RepVs X.K ro' (D :: fr) H2 acc us ∧ lcGo p.guard g tt te (wipeP env vs) ys acc st' (fun acc st2 => newL m acc st2 Q),
      fun H2 ⟨ro2, st2, acc2, us2, a1, a2, a3, a4, a5⟩ => ⟨k - 1, by omega, ro2, st2, acc2, us2, a1, a2, a3, a4, by omega, by rw [hys]; exact a5⟩, fun x H2 hyl => ?_⟩
    obtain ⟨e2, S2, r2⟩ := q.2 x H2 hyl
    have nD : ∀ {ro2 : List Addr} {H2 : Hp} {st2 : Sto}, RepS X.K ro2 (D :: fr) H2 st2 → D ∉ ro2 := fun S z => S.dis D z List.mem_cons_self
    have E2 : RepEnv X.K ro' (D :: fr) H2 (wipeP env vs) (wipe σ vs) := ((((E.ext e1).wipe vs).more frs).ext (e'.trans e2))
    intro s0 H0 C cl fp
    refine tWG.mono (hg s0 H0 C cl fp _ _ _ _ _ _ _ _ _ E2 S2 r2 go') fun σ3 H3 ⟨a3, ro3, env3, st3, e3, S3, E3, q3⟩ => ⟨wipe_apart a3 hsl, ?_⟩
    intro s1 H0 C cl fp
    refine tWTs.mono (ht s1 H0 C cl fp _ _ _ _ _ _ _ E3 S3 q3) fun b H4 ⟨ro4, st4, e4, S4, q4⟩ => ?_
    have hD2 : H2 D = some (.lst us) := e2.old _ _ hD' (nD S')
    have hD3 : H3 D = some (.lst us) := e3.old _ _ hD2 (nD S2)
    have hD4 : H4 D = some (.lst us) := e4.old _ _ hD3 (nD S3)
    cases b with
    | false =>
      rw [if_neg Bool.false_ne_true] at q4 ⊢
      exact ⟨ro4, st4, acc, us, ((e'.trans e2).trans e3).trans e4, S4, hD4, ((ra.ext e2).ext e3).ext e4, q4⟩
    | true =>
      rw [if_pos rfl] at q4 ⊢
      intro s2 H0 C cl fp
      refine tW.mono (he s2 H0 C cl fp _ _ _ _ _ _ _ (E3.ext e4) S4 q4) fun v H5 ⟨ro5, y5, st5, e5, S5, r5, hl, q5⟩ => ?_
      have hD5 : H5 D = some (.lst us) := e5.old _ _ hD4 (nD S4)
      have ra5 := (((ra.ext e2).ext e3).ext e4).ext e5
      refine ⟨us, hD5, by rw [← ra.length]; exact hl, ro5, st5, acc ++ [y5], us ++ [v], ext_own ((((e'.trans e2).trans e3).trans e4).trans e5) hD, S5.own List.mem_cons_self, upd_same, ?_, q5⟩
      exact (ra5.own List.mem_cons_self).append (.cons (r5.own List.mem_cons_self) .nil)
theorem d_lc (m : Bool) (hc : X.calm = true) (hN : X.N.Nodup) (hi : DI X tg iter wi) (ok : BlkOk X.N X.env.scope scope own)
    (hg : ∀ (s : Shared) (H : Hp) (C : Addr) (cl : List (Str × Addr)) (fp : List Addr), DG (X.blk s H scope (compEnvC scope cl C X.env) fp) tg sl g) (hsl : ∀ i ∈ sl, i ∈ own.map (·.2))
    (ht : ∀ (s : Shared) (H : Hp) (C : Addr) (cl : List (Str × Addr)) (fp : List Addr), DTs (X.blk s H scope (compEnvC scope cl C X.env) fp) ifs tt)
    (he : ∀ (s : Shared) (H : Hp) (C : Addr) (cl : List (Str × Addr)) (fp : List Addr), DE (X.blk s H scope (compEnvC scope cl C X.env) fp) elt te) (hs : ∀ x, foldedSetIterable iter X.env x = pure x := by exact fold_no (by rfl)) :
    DE X (.ListComp elt [⟨tg, iter, ifs, 0⟩] scope pos) (wLc m wi g tt te (own.map (·.2))) := .mk fun ro fr σ H env st Q E S hw =>
  toW (pe_lc (g := gAll X scope tg) (tt := tAll X scope ifs) (te := eAll X scope elt) hc hN (pi_W X tg iter) ok (fun s H C cl fp => ⟨fun pins s1 σ H v u Q I r h => h s _ C cl fp pins s1 u I r⟩) (fun s H C cl fp => ⟨fun pins s1 σ H Q I h => h s _ C cl fp pins s1 I⟩) (fun s H C cl fp => ⟨fun pins s1 σ H Q I h => h s _ C cl fp pins s1 I⟩) hs)
    (lc_read m hi hg hsl ht he E S hw)
theorem ds_setLc (m : Bool) {i : Nat} {y : Str} {py spos : Pos} (hc : X.calm = true) (hN : X.N.Nodup) (hy : X.N[i]? = some y) (hyl : X.env.scope.names.lookup y = some .local)
    (hsw : swapsWith (.ListComp elt [⟨tg, iter, ifs, 0⟩] scope pos) (some (.Name y py)) spos.line X.env = pure true) (hi : DI X tg iter wi) (ok : BlkOk X.N X.env.scope scope own)
    (hg : ∀ (s : Shared) (H : Hp) (C : Addr) (cl : List (Str × Addr)) (fp : List Addr), DG (X.blk s H scope (compEnvC scope cl C X.env) fp) tg sl g) (hsl : ∀ i ∈ sl, i ∈ own.map (·.2))
    (ht : ∀ (s : Shared) (H : Hp) (C : Addr) (cl : List (Str × Addr)) (fp : List Addr), DTs (X.blk s H scope (compEnvC scope cl C X.env) fp) ifs tt)
    (he : ∀ (s : Shared) (H : Hp) (C : Addr) (cl : List (Str × Addr)) (fp : List Addr), DE (X.blk s H scope (compEnvC scope cl C X.env) fp) elt te) (hs : ∀ x, foldedSetIterable iter X.env x = pure x := by exact fold_no (by rfl)) :
    DS X (.Assign [.Name y py] (.ListComp elt [⟨tg, iter, ifs, 0⟩] scope pos) spos) (sAsg (wLc m wi g tt te (own.map (·.2))) (gNm i)) := .mk fun ro fr σ H env st D E S hw => by
  refine toWS (ps_setLc (g := gAll X scope tg) (tt := tAll X scope ifs) (te := eAll X scope elt) hc hN hy hyl hsw (pi_W X tg iter) ok (fun s H C cl fp => ⟨fun pins s1 σ H v u Q I r h => h s _ C cl fp pins s1 u I r⟩) (fun s H C cl fp => ⟨fun pins s1 σ H Q I h => h s _ C cl fp pins s1 I⟩) (fun s H C cl fp => ⟨fun pins s1 σ H Q I h => h s _ C cl fp pins s1 I⟩) hs) ?_
  have q := lc_read (elt := elt) (ifs := ifs) m hi hg hsl ht he E S (Q := fun x st1 => gNm i x env st1 D.nx) hw
  -- the list's end is wanted behind the store
  refine tWI.mono q fun J H1 h D0 hD0 => ?_
  obtain ⟨W, w0, turn⟩ := h D0 hD0
  refine ⟨W, w0, fun j m H hW => (turn j m H hW).imp (fun ⟨a, ro2, x, st2, e2, S2, r2, q2⟩ => ⟨a, ro2, _, st2, e2, S2, (E.ext e2).set r2, q2⟩) id⟩
end

/-! ### calls and defs -/
abbrev Spc := List PV → Sto → (PV → Sto → Prop) → Prop
def spOf (K : PySem.W.Frag) (n : Nat) (S : Spc) : Sp := fun vs H Q _ => ∃ ro fr xs st Qp, RepVs K ro fr H xs vs ∧ RepS K ro fr H st ∧ xs.length = n ∧ S xs st Qp ∧ ∀ v H', Post K ro fr H Qp v H' → Q v H'
/-- a def's promise, where no guard of a repr stands -/
structure FnG (P : Program) (w : World) (K : PySem.W.Frag) (mg : Str → Option Value) (base : Heap) (k : Nat) (f : Addr) (fd : FuncData) (ps : List Str) (sp : Sp) : Prop where
  len : ∀ vs H Q E, sp vs H Q E → vs.length = ps.length
  run : ∀ (A : Around) (outer : List Env) (s : Shared) (H : Hp) (args : Args) (us : List Value) (vs : List V) (Q : VK), Room k A → A.guards = some [] → Env0 P w K mg base A outer s H → BindsTo s fd args (ps.zip us) → Vals vs us → sp vs H Q E0 →
    codeAny (model P w) A (.call (.ref f) args) (CR CX0 outer P w H s Q E0) s
theorem FnG.mono {P : Program} {w : World} {K : PySem.W.Frag} {mg : Str → Option Value} {base : Heap} {j k : Nat} {f : Addr} {fd : FuncData} {ps : List Str} {sp : Sp} (F : FnG P w K mg base j f fd ps sp) (h : j ≤ k) :
    FnG P w K mg base k f fd ps sp := ⟨F.len, fun A outer s H args us vs Q hr => F.run A outer s H args us vs Q (hr.mono h)⟩
theorem FnG.imp {P : Program} {w : World} {K : PySem.W.Frag} {mg : Str → Option Value} {base : Heap} {k n : Nat} {f : Addr} {fd : FuncData} {ps : List Str} {S S' : Spc} (F : FnG P w K mg base k f fd ps (spOf K n S))
    (h : ∀ xs st Q, xs.length = n → S' xs st Q → S xs st Q) : FnG P w K mg base k f fd ps (spOf K n S') := by
  have up : ∀ vs H Q E, spOf K n S' vs H Q E → spOf K n S vs H Q E := fun vs H Q E ⟨ro, fr, xs, st, Qp, a, b, c, d, e⟩ => ⟨ro, fr, xs, st, Qp, a, b, c, h _ _ _ c d, e⟩
  exact ⟨fun vs H Q E q => F.len vs H Q E (up _ _ _ _ q), fun A outer s H args us vs Q hr hg he hb hv hs => F.run A outer s H args us vs Q hr hg he hb hv (up _ _ _ _ hs)⟩
/-- the context's facts -/
structure XG (k : Nat) (X : Cx) : Prop where
  room : Room k X.A
  gd : X.A.guards = some []
  calm : X.calm = true
def wCall (n : Nat) (S : Spc) (wa : WA) : WE := fun env st Q => wa env st fun xs st1 => xs.length = n ∧ S xs st1 Q
section
variable {X : Cx} {k n : Nat} {f : Addr} {fd : FuncData} {ps : List Str} {S : Spc} {x : Str} {p pos : Pos} {e : Expr} {es : List Expr} {wa : WA}
theorem run_g {pins : List (Addr × Obj)} {σ : L2.St} {H : Hp} {s : Shared} {Q : VK} {us : List Value} {vs : List V} {sp : Sp} {ds : List Value} {dvs : List V} (F : FnG X.prog X.w X.K X.mg X.base k f fd ps sp) (hr : XG k X) (hb : Binds X.K fd ps ds) (hd : Vals dvs ds)
    (I : Inv X pins σ H s) (r : Vals vs us) (h : sp (vs ++ dvs) H Q E0) : wpAny (model X.prog X.w) X.A (call (.ref f) us) (EP X pins σ Q) X.xe s := by
  have r2 : Vals (vs ++ dvs) (us ++ ds) := r.append hd
  have hl : (us ++ ds).length = ps.length := by rw [← r2.length]; exact F.len _ _ _ _ h
  refine wpAny_call (codeAny_mono (F.run X.A X.stack s H ⟨us, []⟩ (us ++ ds) (vs ++ dvs) Q hr.room hr.gd I.env0 (hb s us I.kIn hl) r2 h) fun r s' hq => ?_)
  cases r with
  | error e => exact False.elim hq
  | ok fl =>
    cases fl with
    | ret u => exact I.after hq
    | next => exact False.elim hq
    | brk => exact False.elim hq
    | cont => exact False.elim hq
theorem pe_callG {sp : Sp} {ds : List Value} {dvs : List V} {t : TA} (F : FnG X.prog X.w X.K X.mg X.base k f fd ps sp) (hr : XG k X) (hg : Gl X x) (hm : X.mg x = some (.ref f)) (hk : PySem.W.keepIn X.K (.ref f) = true) (hb : Binds X.K fd ps ds) (hd : Vals dvs ds)
    (ha : PA X (e :: es) t) (hdb : (x == ("__debug__" : Str)) = false := by decide +kernel) (he : starEach (e :: es) X.env = (false, eval e X.env) :: starEach es X.env := by exact star_cons (by rfl)) (hpl : (backTo pos (starEach es X.env)).any (·.1) = false := by exact star_plain (by rfl)) :
    PE X (.Call (.Name x p) (e :: es) [] pos) (tCall sp dvs E0 t) := by
  refine ⟨fun pins s σ H Q I h => ?_⟩
  refine wpAny_Call_Name_kw (ld_glob I hg hm ?_ hdb)
  refine PySem.W.callWith_K (h₀ := X.base) I.ok.mod.kin hk (thn (ha.run pos pins s σ H _ I h) fun us s1 ⟨vs, H1, I1, r, q⟩ => ⟨I1.kIn, ?_⟩) he hpl
  exact run_g F hr hb hd I1 r q
theorem d_call (F : FnG X.prog X.w X.K X.mg X.base k f fd ps (spOf X.K n S)) (hr : XG k X) (hg : Gl X x) (hm : X.mg x = some (.ref f)) (hk : PySem.W.keepIn X.K (.ref f) = true) (hb : Binds X.K fd ps [])
    (ha : DA X (e :: es) wa) (hdb : (x == ("__debug__" : Str)) = false := by decide +kernel) (he : starEach (e :: es) X.env = (false, eval e X.env) :: starEach es X.env := by exact star_cons (by rfl)) (hpl : (backTo pos (starEach es X.env)).any (·.1) = false := by exact star_plain (by rfl)) :
    DE X (.Call (.Name x p) (e :: es) [] pos) (wCall n S wa) := by
  refine ⟨?_⟩
  intro ro fr σ H env st Q E St hw
  refine toW (pe_callG F hr hg hm hk hb .nil (pa_W X _) hdb he hpl) ?_
  refine tWA.mono (ha _ _ _ _ _ _ _ E St hw) fun vs H1 ⟨ro1, xs, st1, e1, S1, r1, h1, h2⟩ => ?_
  exact ⟨ro1, fr, xs, st1, Q, by simpa using r1, S1, h1, h2, fun v H' h => h.ext e1⟩
def startP (N : List Str) (xs : List PV) : Envp := xs.map some ++ List.replicate (N.length - xs.length) none
theorem RepEnv.start {K : PySem.W.Frag} {ro fr : List Addr} {H : Hp} {N : List Str} {xs : List PV} {vs : List V} (r : RepVs K ro fr H xs vs) : RepEnv K ro fr H (startP N xs) (L2.start N vs) := by
  have hl := r.length
  refine ⟨by unfold startP L2.start; simp [hl], fun i x h => ?_⟩
  unfold startP at h
  by_cases hi : i < xs.length
  · rw [List.getElem?_append_left (by simpa using hi), List.getElem?_map] at h
    cases e : xs[i]? with
    | none => rw [e] at h; cases h
    | some y =>
      rw [e] at h; cases h
      obtain ⟨v, h1, h2⟩ := r.get e
      refine ⟨v, ?_, h2⟩
      unfold L2.start
      rw [List.getElem?_append_left (by simp; omega), List.getElem?_map, h1]; rfl
  · rw [List.getElem?_append_right (by simpa using hi), List.getElem?_replicate] at h
    split at h <;> cases h
theorem fn_g {P : Program} {w : World} {K : PySem.W.Frag} {mg : Str → Option Value} {base : Heap} {k : Nat} {f : Addr} {name qual : Str} {params : Arguments} {body : List Stmt} {scope : Scope} {dV kV doc pm cdv ct oc : Value} {an od : Option Addr}
    {osl : Array (Option Value)} {N ps : List Str} {sp : Sp} (lk : K.lookup f = some ⟨oc, od, .func (PySem.W.fnOf name qual params body scope dV kV doc pm an cdv ct), osl⟩) (hcd : PySem.W.codeIn K cdv qual = true) (S : FnScope N ps scope)
    (len : ∀ vs H Q E, sp vs H Q E → vs.length = ps.length)
    (hbody : ∀ (A : Around) (outer : List Env) (s : Shared) (H : Hp) (vs : List V) (Q : VK), Room k (A.deeper (PyProof.Rows.envOfC qual scope s.heap.objs.size f cdv)) → (A.deeper (PyProof.Rows.envOfC qual scope s.heap.objs.size f cdv)).guards = some [] → sp vs H Q E0 →
      ∃ t, PSs (cxOf CX0 P w K mg base N qual scope f cdv A outer s H E0) body t ∧ t { nx := fun _ H' => Q .non H', rt := Q } (L2.start N vs) H) :
    FnG P w K mg base (k + 1) f (PySem.W.fnOf name qual params body scope dV kV doc pm an cdv ct) ps sp := by
  refine ⟨len, fun A outer s H args us vs Q hr hgd e0 hb r hsp => ?_⟩
  have hl := len _ _ _ _ hsp
  have KX : K.In s.heap := e0.mod.kin.keeps fun b o e => (e0.bs b o e).1
  have lim : s.heap.NoLimit := e0.mod.nolimit.keeps fun b o e => (e0.bs b o e).1
  have hkind : ∀ y ∈ ps.zip us, scope.names.lookup y.1 = some .local ∨ (scope.names.lookup y.1 = some .cell ∧ ((cellsFrom (s.heap.objs.size + 1) scope.names []).lookup y.1).isSome = true) := fun ⟨n, v⟩ hy => by
    rcases S.par n (List.of_mem_zip hy).1 with q | q
    · exact .inl q
    · exact .inr ⟨q, PySem.W.cellsFrom_some _ _ _ (.inl q)⟩
  refine codeAny_call_function hr.depth (KX _ _ lk) rfl S.co S.gen rfl (PySem.W.codeRec_of KX hcd) (hb _ _ _ _ ?_)
  refine wpAny_newFunctionEnv_cells S.kind hkind fun env he s1 x => ?_
  subst he
  refine ⟨lim.keeps x.toInCall.keep, codeAny_func ?_⟩
  have hgd2 : (A.deeper (PyProof.Rows.envOfC qual scope s.heap.objs.size f cdv)).guards = some [] := by first | exact hgd | simpa [Around.deeper] using hgd
  obtain ⟨t, ht, hq⟩ := hbody A outer s H vs Q (hr.deeper _) hgd2 hsp
  have I : Inv (cxOf CX0 P w K mg base N qual scope f cdv A outer s H E0) [] (L2.start N vs) H s1 := inv_start S hr.hd e0 hl r x
  refine wpAny_mono (ht.run [] s1 (L2.start N vs) H _ I hq) (fun fl s' hs => ?_) fun e s' hs => hs
  have fin : ∀ {σ' : L2.St} {H' : Hp} {v : V} {u : Value}, Inv (cxOf CX0 P w K mg base N qual scope f cdv A outer s H E0) [] σ' H' s' → RelV v u → Q v H' → CE outer P w H s Q u s' :=
    fun {σ' H' v u} J rv q => ⟨v, H', J.os, J.bare, J.base, J.hok, rv, q⟩
  cases fl with
  | ret u =>
    obtain ⟨v, σ', H', J, rv, q⟩ := hs
    exact fin J rv q
  | next =>
    obtain ⟨σ', H', J, q⟩ := hs
    exact fin (v := V.non) (u := Value.none) J rfl q
  | brk =>
    obtain ⟨_, _, _, q⟩ := hs
    exact False.elim q
  | cont =>
    obtain ⟨_, _, _, q⟩ := hs
    exact False.elim q
theorem fn_ok {P : Program} {w : World} {K : PySem.W.Frag} {mg : Str → Option Value} {base : Heap} {x qual : Str} {st : Stmt} {N ps : List Str} {k n : Nat} {S : Spc} {f : Addr} {fd : FuncData} (F : Fun K x qual st f fd) (sc : FnScope N ps (defScope st)) (hn : n = ps.length) {wb : WS}
    (hd : ∀ (cdv : Value) (A : Around) (outer : List Env) (s : Shared) (H : Hp), XG k (cxOf CX0 P w K mg base N qual (defScope st) f cdv A outer s H E0).nox → DSs (cxOf CX0 P w K mg base N qual (defScope st) f cdv A outer s H E0).nox (defBody st) wb)
    (hS : ∀ xs sto Q, xs.length = n → S xs sto Q → wb { nx := fun _ st' => Q .non st', rt := Q } (startP N xs) sto) : FnG P w K mg base (k + 1) f fd ps (spOf K n S) := by
  obtain ⟨oc, od, kV, doc, pm, an, cdv, ct, osl, rfl, lk, hcd⟩ := F.ex
  refine fn_g lk hcd sc (fun vs H Q E h => ?_) (fun A outer s H vs Q hr hgd h => ?_)
  · obtain ⟨ro, fr, xs, sto, Qp, r, _, hl, _⟩ := h
    rw [← r.length, hl, hn]
  · obtain ⟨ro, fr, xs, sto, Qp, r, RS, hl, hs, post⟩ := h
    refine ⟨_, (pss_W (cxOf CX0 P w K mg base N qual (defScope st) f cdv A outer s H E0).nox _).nox, ?_⟩
    refine tWSs.mono (hd cdv A outer s H ⟨hr, hgd, rfl⟩ _ _ _ _ _ _ _ (RepEnv.start r) RS (hS xs sto Qp hl hs)) ?_ (fun v H' h => post v H' h) (fun _ _ ⟨_, _, _, _, _, _, h⟩ => h.elim) (fun _ _ ⟨_, _, _, _, _, _, h⟩ => h.elim)
    rintro σ' H' ⟨ro', env', st', e', S', E', q⟩
    exact post .non H' ⟨ro', .non, st', e', S', .non, q⟩
end
end Pv

/-! Pv4: operators, comparisons, subscripts, built-in calls, by values. -/
namespace Pv
open PySem PySem.Spec L2

/-! ### what a value is -/
def lstS (st : Sto) : PV → Option (List PV)
  | .lst xs => some xs
  | .ref n => match st[n]? with
    | some (.lst xs) => some xs
    | _ => none
  | _ => none
def lstP (st : Sto) : PV → Option (List PV)
  | .fls xs => some xs
  | x => lstS st x
def seqP (st : Sto) : PV → Option (List PV)
  | .tup xs => some xs
  | x => lstP st x
section
variable {K : PySem.W.Frag} {ro fr : List Addr} {H : Hp} {st : Sto} {x : PV} {v : V} {xs : List PV}
theorem lstS_at (S : RepS K ro fr H st) (r : RepV K ro fr H x v) (h : lstS st x = some xs) : ∃ a vs, v = .ref a ∧ H a = some (.lst vs) ∧ RepVs K ro fr H xs vs := by
  cases r with
  | lst h1 h2 => simp only [lstS, Option.some.injEq] at h; subst h; exact ⟨_, _, rfl, h1.1, h2⟩
  | @ref a n h1 =>
    simp only [lstS] at h
    split at h
    · rename_i c hc
      cases h
      obtain ⟨vs, q1, q2⟩ := S.at_ n _ a hc h1
      exact ⟨a, vs, rfl, q1, q2⟩
    · cases h
  | _ => cases h
theorem lstP_at (S : RepS K ro fr H st) (r : RepV K ro fr H x v) (h : lstP st x = some xs) : ∃ a vs, v = .ref a ∧ SqL K H a vs ∧ RepVs K ro fr H xs vs := by
  cases r with
  | fls h1 h2 => simp only [lstP, Option.some.injEq] at h; subst h; exact ⟨_, _, rfl, h1.sq, h2⟩
  | lst h1 h2 => obtain ⟨a, vs, q, q2, q3⟩ := lstS_at S (.lst h1 h2) h; exact ⟨a, vs, q, SqL.of q2, q3⟩
  | ref h1 => obtain ⟨a, vs, q, q2, q3⟩ := lstS_at S (.ref h1) h; exact ⟨a, vs, q, SqL.of q2, q3⟩
  | _ => cases h
theorem seqP_at (S : RepS K ro fr H st) (r : RepV K ro fr H x v) (h : seqP st x = some xs) : ∃ a vs, v = .ref a ∧ (SqL K H a vs ∨ SqT K H a vs) ∧ RepVs K ro fr H xs vs := by
  cases r with
  | tup h1 h2 => simp only [seqP, Option.some.injEq] at h; subst h; exact ⟨_, _, rfl, .inr h1.sq, h2⟩
  | fls h1 h2 => obtain ⟨a, vs, q, q2, q3⟩ := lstP_at S (.fls h1 h2) h; exact ⟨a, vs, q, .inl q2, q3⟩
  | lst h1 h2 => obtain ⟨a, vs, q, q2, q3⟩ := lstP_at S (.lst h1 h2) h; exact ⟨a, vs, q, .inl q2, q3⟩
  | ref h1 => obtain ⟨a, vs, q, q2, q3⟩ := lstP_at S (.ref h1) h; exact ⟨a, vs, q, .inl q2, q3⟩
  | dk h1 h2 h3 => cases h
  | _ => cases h
end

/-! ### values as data -/
mutual
def isD : PV → Bool
  | .non | .bl _ | .int _ | .str _ => true
  | .tup xs | .lst xs | .fls xs => isDs xs
  | .dk _ _ | .ref _ => false
def isDs : List PV → Bool
  | [] => true
  | x :: xs => isD x && isDs xs
end
mutual
def dat : PV → PyData
  | .non => .none
  | .bl b => .bool b
  | .int i => .int i
  | .str s => .str s
  | .tup xs => .tuple (dats xs)
  | .lst xs | .fls xs => .list (dats xs)
  | .dk _ _ | .ref _ => .none
def dats : List PV → List PyData
  | [] => []
  | x :: xs => dat x :: dats xs
end
section
variable {K : PySem.W.Frag} {ro fr : List Addr} {H : Hp}
mutual
theorem dp_of : ∀ (x : PV) (v : V), RepV K ro fr H x v → isD x = true → Dp K H v (dat x)
  | .non, _, r, _ => by cases r; simp only [dat]; exact .non
  | .bl b, _, r, _ => by cases r; simp only [dat]; exact .bl b
  | .int i, _, r, _ => by cases r; simp only [dat]; exact .int i
  | .str s, _, r, _ => by cases r; simp only [dat]; exact .str s
  | .tup xs, _, r, h => by
    cases r with
    | tup h1 h2 => simp only [dat]; exact .tup h1.sq (dps_of xs _ h2 (by simpa only [isD] using h))
  | .lst xs, _, r, h => by
    cases r with
    | lst h1 h2 => simp only [dat]; exact .lst h1.sq (dps_of xs _ h2 (by simpa only [isD] using h))
  | .fls xs, _, r, h => by
    cases r with
    | fls h1 h2 => simp only [dat]; exact .lst h1.sq (dps_of xs _ h2 (by simpa only [isD] using h))
  | .dk _ _, _, _, h => by simp only [isD] at h; cases h
  | .ref _, _, _, h => by simp only [isD] at h; cases h
theorem dps_of : ∀ (xs : List PV) (vs : List V), RepVs K ro fr H xs vs → isDs xs = true → DpAll K H vs (dats xs)
  | [], _, r, _ => by cases r; simp only [dats]; exact .nil
  | x :: xs, _, r, h => by
    cases r with
    | cons h1 h2 =>
      simp only [isDs, Bool.and_eq_true] at h
      simp only [dats]; exact .cons (dp_of x _ h1 h.1) (dps_of xs _ h2 h.2)
end
end
/-- a value as data, a list of the store too -/
def datS (st : Sto) : PV → Option PyData
  | .ref n => match lstS st (.ref n) with
    | some xs => if isDs xs = true then some (.list (dats xs)) else none
    | none => none
  | x => if isD x = true then some (dat x) else none
theorem datS_at {K : PySem.W.Frag} {ro fr : List Addr} {H : Hp} {st : Sto} {x : PV} {v : V} {d : PyData} (S : RepS K ro fr H st) (r : RepV K ro fr H x v) (h : datS st x = some d) : Dp K H v d := by
  have key : (if isD x = true then some (dat x) else none) = some d → Dp K H v d := fun h => by
    split at h
    · cases h; exact dp_of x v r (by assumption)
    · cases h
  cases x with
  | ref n =>
    simp only [datS] at h
    split at h
    · rename_i xs e
      split at h
      · cases h
        obtain ⟨a, vs, rfl, q, q2⟩ := lstS_at S r e
        exact .lst (SqL.of q) (dps_of xs vs q2 (by assumption))
      · cases h
    · cases h
  | _ => exact key h

/-! ### operators -/
abbrev OpP := PV → PV → Sto → (PV → Sto → Prop) → Prop
def addR (m : Bool) : OpP := fun x y st Q => match x, y with
  | .int i, .int j => Q (.int (i + j)) st
  | .str a, .str b => a.length + b.length ≤ sizeLine ∧ Q (.str (a ++ b)) st
  | .tup xs, .tup ys => xs.length + ys.length ≤ sizeLine ∧ Q (.tup (xs ++ ys)) st
  | x, y => ∃ xs ys, lstS st x = some xs ∧ lstS st y = some ys ∧ xs.length + ys.length ≤ sizeLine ∧ newL m (xs ++ ys) st Q
def subR : OpP := fun x y st Q => ∃ i j, x = .int i ∧ y = .int j ∧ Q (.int (i - j)) st
def mulR : OpP := fun x y st Q => match x, y with
  | .int i, .int j => ((-(2 ^ 64) < i ∧ i < 2 ^ 64) ∨ (-(2 ^ 64) < j ∧ j < 2 ^ 64)) ∧ Q (.int (i * j)) st
  | .tup xs, .int k => xs ≠ [] ∧ 2 ≤ k ∧ k ≤ 1000 ∧ xs.length ≤ 1000 ∧ Q (.tup (List.replicate k.toNat xs).flatten) st
  | .str z, .int k => MulOk z k ∧ Q (.str (PySem.Txt.mul z k)) st
  | _, _ => False
def fdivR : OpP := fun x y st Q => ∃ i j, x = .int i ∧ y = .int j ∧ (0 < j ∧ j < 1073741824) ∧ Q (.int (i / j)) st
def modR : OpP := fun x y st Q => ∃ i j, x = .int i ∧ y = .int j ∧ 0 < j ∧ Q (.int (i % j)) st
def powR : OpP := fun x y st Q => ∃ i j, x = .int i ∧ y = .int j ∧ (0 ≤ j ∧ j ≤ 1000000 ∧ i.natAbs < 2 ^ 64) ∧ Q (.int (i ^ j.toNat)) st
def ltR : OpP := fun x y st Q => match x, y with
  | .int i, .int j => Q (.bl (decide (i < j))) st
  | .str i, .str j => Q (.bl (decide (i.cps.toList < j.cps.toList))) st
  | _, _ => False
def leR : OpP := fun x y st Q => match x, y with
  | .int i, .int j => Q (.bl (decide (i ≤ j))) st
  | .str i, .str j => Q (.bl (!decide (j.cps.toList < i.cps.toList))) st
  | _, _ => False
def gtR : OpP := fun x y st Q => match x, y with
  | .int i, .int j => Q (.bl (decide (j < i))) st
  | .str i, .str j => Q (.bl (decide (j.cps.toList < i.cps.toList))) st
  | _, _ => False
def geR : OpP := fun x y st Q => match x, y with
  | .int i, .int j => Q (.bl (decide (j ≤ i))) st
  | .str i, .str j => Q (.bl (!decide (i.cps.toList < j.cps.toList))) st
  | _, _ => False
def eqR : OpP := fun x y st Q => ∃ d e, datS st x = some d ∧ datS st y = some e ∧ SeqAt.shaped d = true ∧ SeqAt.shaped e = true ∧ Q (.bl (PyData.eqv d e)) st
def neR : OpP := fun x y st Q => ∃ d e, datS st x = some d ∧ datS st y = some e ∧ SeqAt.shaped d = true ∧ SeqAt.shaped e = true ∧ Q (.bl (!PyData.eqv d e)) st
def inR : OpP := fun x y st Q => ∃ d ds, datS st x = some d ∧ datS st y = some (.list ds) ∧ SeqAt.shaped d = true ∧ SeqAt.shaped (.list ds) = true ∧ Q (.bl (ds.any fun z => PyData.eqv z d)) st
def notInR : OpP := fun x y st Q => ∃ d ds, datS st x = some d ∧ datS st y = some (.list ds) ∧ SeqAt.shaped d = true ∧ SeqAt.shaped (.list ds) = true ∧ Q (.bl (!ds.any fun z => PyData.eqv z d)) st
/-- one sign in a text -/
def inSR : OpP := fun x y st Q => ∃ (c : Nat) (z : Str), x = .str ⟨#[c]⟩ ∧ y = .str z ∧ Q (.bl (decide (c ∈ z.cps.toList))) st
def isNR : OpP := fun x y st Q => y = .non ∧ (match x with | .ref _ => False | _ => Q (.bl (match x with | .non => true | _ => false)) st)
def notNR : OpP := fun x y st Q => y = .non ∧ (match x with | .ref _ => False | _ => Q (.bl (match x with | .non => false | _ => true)) st)
section
variable {X : Cx}
theorem dop_add (m : Bool) : DOp X (binaryOp .Add) (addR m) := by
  refine ⟨?_⟩
  intro ro fr H st x y v u Q S rx ry h
  have lists : (∃ xs ys, lstS st x = some xs ∧ lstS st y = some ys ∧ xs.length + ys.length ≤ sizeLine ∧ newL m (xs ++ ys) st Q) → rW X (binaryOp .Add) v u H (Post X.K ro fr H Q) := by
    rintro ⟨xs, ys, hx, hy, hz, q⟩
    obtain ⟨a, vs, rfl, ha, r1⟩ := lstS_at S rx hx
    obtain ⟨b, us, rfl, hb, r2⟩ := lstS_at S ry hy
    exact toRW op_cat ⟨a, b, vs, us, rfl, rfl, ha, hb, by rw [← r1.length, ← r2.length]; exact hz, fun p hp => new_lst m S (r1.append r2) hp q⟩
  cases rx with
  | int i =>
    cases ry with
    | int j => exact toRW op_add ⟨i, j, rfl, rfl, ro, _, st, .refl, S, .int _, h⟩
    | _ => obtain ⟨_, _, z, _⟩ := h; cases z
  | str a =>
    cases ry with
    | str b => exact toRW op_add_str ⟨a, b, rfl, rfl, h.1, ro, _, st, .refl, S, .str _, h.2⟩
    | _ => obtain ⟨_, _, z, _⟩ := h; cases z
  | @tup a xs vs t1 r1 =>
    cases ry with
    | @tup b ys us t2 r2 =>
      obtain ⟨hz, q⟩ := h
      refine toRW op_catA ⟨a, b, vs, us, rfl, rfl, t1.sq, t2.sq, by rw [← r1.length, ← r2.length]; exact hz, fun e => ?_, fun e e2 => ?_, fun e e2 p hp => ?_⟩
      · subst e; cases r1; exact ⟨ro, _, st, .refl, S, .tup t2 r2, by simpa using q⟩
      · subst e2; cases r2; exact ⟨ro, _, st, .refl, S, .tup t1 r1, by simpa using q⟩
      · exact new_tup S (r1.append r2) hp q
    | _ => obtain ⟨_, _, z, _⟩ := h; cases z
  | lst h1 h2 => exact lists h
  | ref h1 => exact lists h
  | non => exact lists h
  | bl _ => exact lists h
  | fls h1 h2 => exact lists h
  | dk h1 h2 h3 => exact lists h
theorem dop_sub : DOp X (binaryOp .Sub) subR := by
  refine ⟨?_⟩
  rintro ro fr H st x y v u Q S rx ry ⟨i, j, rfl, rfl, q⟩
  cases rx; cases ry
  exact toRW op_sub ⟨i, j, rfl, rfl, ro, _, st, .refl, S, .int _, q⟩
theorem flatten_rep {K : PySem.W.Frag} {ro fr : List Addr} {H : Hp} {xs : List PV} {vs : List V} (r : RepVs K ro fr H xs vs) : ∀ n : Nat, RepVs K ro fr H (List.replicate n xs).flatten (List.replicate n vs).flatten
  | 0 => .nil
  | n + 1 => by rw [List.replicate_succ, List.replicate_succ, List.flatten_cons, List.flatten_cons]; exact r.append (flatten_rep r n)
theorem op_mulS : OpR X (binaryOp .Mult) (fun x y H Q => ∃ z k, x = .str z ∧ y = .int k ∧ MulOk z k ∧ Q (.str (PySem.Txt.mul z k)) H) := by
  intro pins s σ H x y v u Q I rx ry h
  obtain ⟨i, j, rfl, rfl, hz, q⟩ := h
  obtain ⟨t, rfl⟩ := rx
  obtain ⟨t', rfl⟩ := ry
  exact PySem.SB.mul hz fun t' tk => ⟨.str (PySem.Txt.mul i j), H, I.tok _, ⟨_, rfl⟩, q⟩
theorem dop_mul : DOp X (binaryOp .Mult) mulR := by
  refine ⟨?_⟩
  intro ro fr H st x y v u Q S rx ry h
  cases rx with
  | int i =>
    cases ry with
    | int j => exact toRW op_mul ⟨i, j, rfl, rfl, h.1, ro, _, st, .refl, S, .int _, h.2⟩
    | _ => exact h.elim
  | @tup a xs vs t1 r1 =>
    cases ry with
    | int k =>
      obtain ⟨h0, h1, h2, h3, q⟩ := h
      exact toRW op_repT ⟨a, k, vs, rfl, rfl, t1.sq, fun e => by subst e; cases r1; exact h0 rfl, h1, h2, by rw [← r1.length]; exact h3, fun p hp => new_tup S (flatten_rep r1 _) hp q⟩
    | _ => exact h.elim
  | str z =>
    cases ry with
    | int k => exact toRW op_mulS ⟨z, k, rfl, rfl, h.1, ro, _, st, .refl, S, .str _, h.2⟩
    | _ => exact h.elim
  | _ => exact h.elim
theorem dop_fdiv : DOp X (binaryOp .FloorDiv) fdivR := by
  refine ⟨?_⟩
  rintro ro fr H st x y v u Q S rx ry ⟨i, j, rfl, rfl, hj, q⟩
  cases rx; cases ry
  exact toRW op_fdiv ⟨i, j, rfl, rfl, hj, ro, _, st, .refl, S, .int _, q⟩
theorem dop_mod : DOp X (binaryOp .Mod) modR := by
  refine ⟨?_⟩
  rintro ro fr H st x y v u Q S rx ry ⟨i, j, rfl, rfl, hj, q⟩
  cases rx; cases ry
  exact toRW op_mod ⟨i, j, rfl, rfl, hj, ro, _, st, .refl, S, .int _, q⟩
theorem dop_pow : DOp X (binaryOp .Pow) powR := by
  refine ⟨?_⟩
  rintro ro fr H st x y v u Q S rx ry ⟨i, j, rfl, rfl, hj, q⟩
  cases rx; cases ry
  exact toRW op_pow ⟨i, j, rfl, rfl, hj, ro, _, st, .refl, S, .int _, q⟩
theorem dop_lt : DOp X (compareOp .Lt) ltR := by
  refine ⟨?_⟩
  intro ro fr H st x y v u Q S rx ry h
  cases rx with
  | int i =>
    cases ry with
    | int j => exact toRW op_lt ⟨i, j, rfl, rfl, ro, _, st, .refl, S, .bl _, h⟩
    | _ => exact h.elim
  | str i =>
    cases ry with
    | str j => exact toRW op_lt_str ⟨i, j, rfl, rfl, ro, _, st, .refl, S, .bl _, h⟩
    | _ => exact h.elim
  | _ => exact h.elim
theorem dop_le : DOp X (compareOp .LtE) leR := by
  refine ⟨?_⟩
  intro ro fr H st x y v u Q S rx ry h
  cases rx with
  | int i =>
    cases ry with
    | int j => exact toRW op_le ⟨i, j, rfl, rfl, ro, _, st, .refl, S, .bl _, h⟩
    | _ => exact h.elim
  | str i =>
    cases ry with
    | str j => exact toRW op_le_str ⟨i, j, rfl, rfl, ro, _, st, .refl, S, .bl _, h⟩
    | _ => exact h.elim
  | _ => exact h.elim
theorem dop_gt : DOp X (compareOp .Gt) gtR := by
  refine ⟨?_⟩
  intro ro fr H st x y v u Q S rx ry h
  cases rx with
  | int i =>
    cases ry with
    | int j => exact toRW op_gt ⟨i, j, rfl, rfl, ro, _, st, .refl, S, .bl _, h⟩
    | _ => exact h.elim
  | str i =>
    cases ry with
    | str j => exact toRW op_gt_str ⟨i, j, rfl, rfl, ro, _, st, .refl, S, .bl _, h⟩
    | _ => exact h.elim
  | _ => exact h.elim
theorem dop_ge : DOp X (compareOp .GtE) geR := by
  refine ⟨?_⟩
  intro ro fr H st x y v u Q S rx ry h
  cases rx with
  | int i =>
    cases ry with
    | int j => exact toRW op_ge ⟨i, j, rfl, rfl, ro, _, st, .refl, S, .bl _, h⟩
    | _ => exact h.elim
  | str i =>
    cases ry with
    | str j => exact toRW op_ge_str ⟨i, j, rfl, rfl, ro, _, st, .refl, S, .bl _, h⟩
    | _ => exact h.elim
  | _ => exact h.elim
theorem dop_eq {k : Nat} (G : XG k X) : DOp X (compareOp .Eq) eqR := by
  refine ⟨?_⟩
  rintro ro fr H st x y v u Q S rx ry ⟨d, e, hd, he, sd, se, q⟩
  exact toRW (op_eqD G.room.units) ⟨d, e, datS_at S rx hd, datS_at S ry he, sd, se, ro, _, st, .refl, S, .bl _, q⟩
theorem dop_ne {k : Nat} (G : XG k X) : DOp X (compareOp .NotEq) neR := by
  refine ⟨?_⟩
  rintro ro fr H st x y v u Q S rx ry ⟨d, e, hd, he, sd, se, q⟩
  exact toRW (op_neD G.room.units) ⟨d, e, datS_at S rx hd, datS_at S ry he, sd, se, ro, _, st, .refl, S, .bl _, q⟩
theorem dop_in {k : Nat} (G : XG k X) : DOp X (compareOp .In) inR := by
  refine ⟨?_⟩
  rintro ro fr H st x y v u Q S rx ry ⟨d, ds, hd, he, sd, se, q⟩
  exact toRW (op_inD (by have := G.room.un; omega)) ⟨d, ds, datS_at S rx hd, datS_at S ry he, sd, se, ro, _, st, .refl, S, .bl _, q⟩
theorem dop_notIn {k : Nat} (G : XG k X) : DOp X (compareOp .NotIn) notInR := by
  refine ⟨?_⟩
  rintro ro fr H st x y v u Q S rx ry ⟨d, ds, hd, he, sd, se, q⟩
  exact toRW (op_notInD (by have := G.room.un; omega)) ⟨d, ds, datS_at S rx hd, datS_at S ry he, sd, se, ro, _, st, .refl, S, .bl _, q⟩
theorem dop_inS : DOp X (compareOp .In) inSR := by
  refine ⟨?_⟩
  rintro ro fr H st x y v u Q S rx ry ⟨c, z, rfl, rfl, q⟩
  cases rx; cases ry
  exact toRW op_in_sign ⟨c, z, rfl, rfl, ro, _, st, .refl, S, .bl _, q⟩
theorem dop_isN : DOp X (compareOp .Is) isNR := by
  refine ⟨?_⟩
  rintro ro fr H st x y v u Q S rx ry ⟨rfl, q⟩
  cases ry
  refine toRW op_isN ⟨rfl, ro, _, st, .refl, S, .bl _, ?_⟩
  cases rx <;> first | exact q.elim | exact q
theorem dop_notN : DOp X (compareOp .IsNot) notNR := by
  refine ⟨?_⟩
  rintro ro fr H st x y v u Q S rx ry ⟨rfl, q⟩
  cases ry
  refine toRW op_notN ⟨rfl, ro, _, st, .refl, S, .bl _, ?_⟩
  cases rx <;> first | exact q.elim | exact q
/-- two comparisons in a chain -/
def wChain (r r' : OpP) (wa wb wc : WE) : WE := fun env st Q => wa env st fun x st1 => wb env st1 fun y st2 => r x y st2 fun z st3 => ∃ k, z = .bl k ∧ if k = true then wc env st3 fun x2 st4 => r' y x2 st4 Q else Q (.bl false) st3
def tChainP (r r' : OpP) (wa wb wc : WE) : WT := fun env st Q => wa env st fun x st1 => wb env st1 fun y st2 => r x y st2 fun z st3 => ∃ k, z = .bl k ∧ if k = true then wc env st3 fun x2 st4 => r' y x2 st4 fun z2 st5 => ∃ k2, z2 = .bl k2 ∧ Q k2 st5 else Q false st3
end
end Pv

/-! Pv5: chains, truth, subscripts, slices, built-in calls, methods of lists. -/
namespace Pv
open PySem PySem.Spec L2

section
variable {X : Cx} {a b c e : Expr} {es rest : List Expr} {wa wb wc w : WE} {ws : WA} {pos : Pos}
theorem d_chain {op op' : CmpOp} {r r' : OpP} (ho : DOp X (compareOp op) r) (ho' : DOp X (compareOp op') r') (ha : DE X a wa) (hb : DE X b wb) (hc : DE X c wc)
    (hm : lastMarks [op, op'] [b, c] = false := by exact last_no (by rfl)) : DE X (.Compare a [op, op'] [b, c] pos) (wChain r r' wa wb wc) := by
  refine ⟨?_⟩
  intro ro fr σ H env st Q E S h
  refine toW (pe_chain (op_W X _) (op_W X _) (pe_W X a) (pe_W X b) (pe_W X c) hm) ?_
  refine tW.mono (ha _ _ _ _ _ _ _ E S h) fun v H1 ⟨ro1, x, st1, e1, S1, r1, h1⟩ => ?_
  refine tW.mono (hb _ _ _ _ _ _ _ (E.ext e1) S1 h1) fun v2 H2 ⟨ro2, y, st2, e2, S2, r2, h2⟩ => ?_
  refine rW.mono (ho _ _ _ _ _ _ _ _ _ S2 (r1.ext e2) r2 h2) fun v3 H3 ⟨ro3, z, st3, e3, S3, r3, k, hz, q⟩ => ?_
  subst hz
  cases r3
  refine ⟨k, rfl, ?_⟩
  have ee := (e1.trans e2).trans e3
  cases k with
  | false => exact ⟨ro3, _, st3, ee, S3, .bl _, q⟩
  | true =>
    refine tW.mono (hc _ _ _ _ _ _ _ (E.ext ee) S3 q) fun v4 H4 ⟨ro4, x4, st4, e4, S4, r4, q4⟩ => ?_
    exact rW.mono (ho' _ _ _ _ _ _ _ _ _ S4 (r2.ext (e3.trans e4)) r4 q4) fun _ _ h => h.ext (ee.trans e4)
theorem dt_chain {op op' : CmpOp} {r r' : OpP} (ho : DOp X (compareOp op) r) (ho' : DOp X (compareOp op') r') (ha : DE X a wa) (hb : DE X b wb) (hc : DE X c wc)
    (hm : lastMarks [op, op'] [b, c] = false := by exact last_no (by rfl)) : DT X (.Compare a [op, op'] [b, c] pos) (tChainP r r' wa wb wc) := by
  refine ⟨?_⟩
  intro ro fr σ H env st Q E S h
  refine toWT (pt_chain (op_W X _) (op_W X _) (pe_W X a) (pe_W X b) (pe_W X c) hm) ?_
  refine tW.mono (ha _ _ _ _ _ _ _ E S h) fun v H1 ⟨ro1, x, st1, e1, S1, r1, h1⟩ => ?_
  refine tW.mono (hb _ _ _ _ _ _ _ (E.ext e1) S1 h1) fun v2 H2 ⟨ro2, y, st2, e2, S2, r2, h2⟩ => ?_
  refine rW.mono (ho _ _ _ _ _ _ _ _ _ S2 (r1.ext e2) r2 h2) fun v3 H3 ⟨ro3, z, st3, e3, S3, r3, k, hz, q⟩ => ?_
  subst hz
  cases r3
  refine ⟨k, rfl, ?_⟩
  have ee := (e1.trans e2).trans e3
  cases k with
  | false => exact ⟨false, rfl, ro3, st3, ee, S3, q⟩
  | true =>
    refine tW.mono (hc _ _ _ _ _ _ _ (E.ext ee) S3 q) fun v4 H4 ⟨ro4, x4, st4, e4, S4, r4, q4⟩ => ?_
    refine rW.mono (ho' _ _ _ _ _ _ _ _ _ S4 (r2.ext (e3.trans e4)) r4 q4) fun v5 H5 ⟨ro5, z5, st5, e5, S5, r5, k2, hz2, q5⟩ => ?_
    subst hz2
    cases r5
    exact ⟨k2, rfl, ro5, st5, (ee.trans e4).trans e5, S5, q5⟩

/-! ### truth -/
def truP (st : Sto) : PV → Option Bool
  | .non => some false
  | .bl b => some b
  | .int i => some (i != 0)
  | .str s => if s.length ≤ sizeLine then some ((s.length : Int) != 0) else none
  | .tup xs | .lst xs | .fls xs => some (!xs.isEmpty)
  | .dk ks _ => some (!ks.isEmpty)
  | .ref n => match st[n]? with
    | some (.lst xs) => some (!xs.isEmpty)
    | some (.dk ks _) => some (!ks.isEmpty)
    | _ => none
theorem isE_reps {K : PySem.W.Frag} {ro fr : List Addr} {H : Hp} {xs : List PV} {vs : List V} (r : RepVs K ro fr H xs vs) : vs.isEmpty = xs.isEmpty := by cases r <;> rfl
theorem isE_map {kvs : List (Key × V)} {ks : List Key} (h : kvs.map (·.1) = ks) : kvs.isEmpty = ks.isEmpty := by subst h; cases kvs <;> rfl
theorem truP_at {K : PySem.W.Frag} {ro fr : List Addr} {H : Hp} {st : Sto} {x : PV} {v : V} {b : Bool} (S : RepS K ro fr H st) (r : RepV K ro fr H x v) (h : truP st x = some b) : TruV K v H b := by
  cases r with
  | non => simp only [truP, Option.some.injEq] at h; exact h.symm
  | bl _ => simp only [truP, Option.some.injEq] at h; exact h.symm
  | int _ => simp only [truP, Option.some.injEq] at h; exact h.symm
  | str s =>
    simp only [truP] at h
    split at h
    · cases h; exact ⟨by assumption, rfl⟩
    · cases h
  | tup h1 h2 => simp only [truP, Option.some.injEq] at h; exact .inr (.inl ⟨_, h1.sq, by rw [isE_reps h2]; exact h.symm⟩)
  | lst h1 h2 => simp only [truP, Option.some.injEq] at h; exact .inl ⟨_, h1.sq, by rw [isE_reps h2]; exact h.symm⟩
  | fls h1 h2 => simp only [truP, Option.some.injEq] at h; exact .inl ⟨_, h1.sq, by rw [isE_reps h2]; exact h.symm⟩
  | dk h1 h2 h3 => simp only [truP, Option.some.injEq] at h; exact .inr (.inr ⟨_, h1.1, by rw [isE_map h2]; exact h.symm⟩)
  | @ref a n h1 =>
    simp only [truP] at h
    split at h
    · rename_i xs hc
      cases h
      obtain ⟨vs, q1, q2⟩ := S.at_ n _ a hc h1
      exact .inl ⟨vs, SqL.of q1, by rw [isE_reps q2]⟩
    · rename_i ks xs hc
      cases h
      obtain ⟨kvs, q1, q2, q3⟩ := S.at_ n _ a hc h1
      exact .inr (.inr ⟨kvs, q1, by rw [isE_map q2]⟩)
    · cases h
def tTru (w : WE) : WT := fun env st Q => w env st fun x st1 => ∃ b, truP st1 x = some b ∧ Q b st1
theorem dt_tru (h : DE X e w) (he : ∀ whole, isTrue e X.env whole = (do let v ← whole; standAt e.pos; holding [v] (truthy v)) := by exact ist_no (by rfl)) : DT X e (tTru w) := by
  refine ⟨?_⟩
  intro ro fr σ H env st Q E S hw
  refine toWT (pt_truth (pe_W X e) he) ?_
  exact tW.mono (h _ _ _ _ _ _ _ E S hw) fun v H1 ⟨ro1, x, st1, e1, S1, r1, b, hb, q⟩ => ⟨b, truP_at S1 r1 hb, ro1, st1, e1, S1, q⟩
def wAndT (wa wb : WE) : WE := fun env st Q => wa env st fun x st1 => ∃ k, truP st1 x = some k ∧ if k = true then wb env st1 Q else Q x st1
def wOrT (wa wb : WE) : WE := fun env st Q => wa env st fun x st1 => ∃ k, truP st1 x = some k ∧ if k = true then Q x st1 else wb env st1 Q
def wNotT (wa : WE) : WE := fun env st Q => wa env st fun x st1 => ∃ k, truP st1 x = some k ∧ Q (.bl (!k)) st1
theorem d_one {op} (h : DE X a w) : DE X (.BoolOp op [a] pos) w := .mk fun ro fr σ H env st Q E S hw => toW (pe_one (pe_W X a)) (h _ _ _ _ _ _ _ E S hw)
theorem d_and (ha : DE X a wa) (hb : DE X (.BoolOp .And (b :: rest) pos) wb) : DE X (.BoolOp .And (a :: b :: rest) pos) (wAndT wa wb) := by
  refine ⟨?_⟩
  intro ro fr σ H env st Q E S hw
  refine toW (pe_andT (pe_W X a) (pe_W X _)) ?_
  refine tW.mono (ha _ _ _ _ _ _ _ E S hw) fun v H1 ⟨ro1, x, st1, e1, S1, r1, k, hk, q⟩ => ⟨k, truP_at S1 r1 hk, ?_⟩
  cases k with
  | true => exact tW.mono (hb _ _ _ _ _ _ _ (E.ext e1) S1 q) fun _ _ h => h.ext e1
  | false => exact ⟨ro1, x, st1, e1, S1, r1, q⟩
theorem d_or (ha : DE X a wa) (hb : DE X (.BoolOp .Or (b :: rest) pos) wb) : DE X (.BoolOp .Or (a :: b :: rest) pos) (wOrT wa wb) := by
  refine ⟨?_⟩
  intro ro fr σ H env st Q E S hw
  refine toW (pe_orT (pe_W X a) (pe_W X _)) ?_
  refine tW.mono (ha _ _ _ _ _ _ _ E S hw) fun v H1 ⟨ro1, x, st1, e1, S1, r1, k, hk, q⟩ => ⟨k, truP_at S1 r1 hk, ?_⟩
  cases k with
  | false => exact tW.mono (hb _ _ _ _ _ _ _ (E.ext e1) S1 q) fun _ _ h => h.ext e1
  | true => exact ⟨ro1, x, st1, e1, S1, r1, q⟩
theorem d_not (ha : DE X a wa) : DE X (.UnaryOp .Not a pos) (wNotT wa) := by
  refine ⟨?_⟩
  intro ro fr σ H env st Q E S hw
  refine toW (pe_notT (pe_W X a)) ?_
  exact tW.mono (ha _ _ _ _ _ _ _ E S hw) fun v H1 ⟨ro1, x, st1, e1, S1, r1, k, hk, q⟩ => ⟨k, truP_at S1 r1 hk, ro1, _, st1, e1, S1, .bl _, q⟩
def wNeg (wa : WE) : WE := fun env st Q => wa env st fun x st1 => ∃ i, x = .int i ∧ Q (.int (-i)) st1
theorem d_neg (ha : DE X a wa) : DE X (.UnaryOp .USub a pos) (wNeg wa) := by
  refine ⟨?_⟩
  intro ro fr σ H env st Q E S hw
  refine toW (pe_un un_neg (pe_W X a)) ?_
  refine tW.mono (ha _ _ _ _ _ _ _ E S hw) fun v H1 ⟨ro1, x, st1, e1, S1, r1, i, hi, q⟩ => ?_
  subst hi
  cases r1
  exact ⟨i, rfl, ro1, _, st1, e1, S1, .int _, q⟩

/-! ### subscripts -/
def rIx (X : Cx) : R2 := fun x y H Q => ∀ (value slice : Expr) pins s σ v u, Inv X pins σ H s → RelV x v → RelV y u → subscripted slice false v u = operate [v, u] (getItem v u) → wpAny (model X.prog X.w) X.A (PyProof.Rows.subscriptTail value slice v u) (EP X pins σ Q) X.xe s
theorem ix_W (X : Cx) : IxR X (rIx X) := fun value slice pins s σ H x y v u Q I r1 r2 h e => h value slice pins s σ v u I r1 r2 e
theorem toIx {r : R2} {x y : V} {H : Hp} {Q : VK} (p : IxR X r) (h : r x y H Q) : rIx X x y H Q := fun value slice pins s σ v u I r1 r2 e => p value slice pins s σ H x y v u Q I r1 r2 h e
theorem rIx.mono {x y : V} {H : Hp} {Q Q' : VK} (h : rIx X x y H Q) (hQ : ∀ v H, Q v H → Q' v H) : rIx X x y H Q' := fun value slice pins s σ v u I r1 r2 e => thn (h value slice pins s σ v u I r1 r2 e) fun _ _ => EP.mono hQ
def ixR : OpP := fun x y st Q => ∃ i, y = .int i ∧ match x with
  | .str z => ∃ c, z.length ≤ sizeLine ∧ atI z.cps.toList i = some c ∧ Q (.str ⟨#[c]⟩) st
  | x => ∃ xs v, seqP st x = some xs ∧ atI xs i = some v ∧ Q v st
theorem atI_reps {K : PySem.W.Frag} {ro fr : List Addr} {H : Hp} {xs : List PV} {vs : List V} (r : RepVs K ro fr H xs vs) {i : Int} {x : PV} (h : atI xs i = some x) : ∃ v, atI vs i = some v ∧ RepV K ro fr H x v := by
  unfold atI at h ⊢
  rw [← r.length]
  cases e : ixN xs.length i with
  | none => rw [e] at h; cases h
  | some j => rw [e] at h; exact r.get h
theorem d_ix (ha : DE X a wa) (hb : DE X b wb) (hs : PlainIx b := by exact pix_no (by rfl)) : DE X (.Subscript a b pos) (wOp ixR wa wb) := by
  refine ⟨?_⟩
  intro ro fr σ H env st Q E S h
  refine toW (pe_ix (ix_W X) (pe_W X a) (pe_W X b) hs) ?_
  refine tW.mono (ha _ _ _ _ _ _ _ E S h) fun v H1 ⟨ro1, x, st1, e1, S1, r1, h1⟩ => ?_
  refine tW.mono (hb _ _ _ _ _ _ _ (E.ext e1) S1 h1) fun v2 H2 ⟨ro2, y, st2, e2, S2, r2, i, hi, h2⟩ => ?_
  subst hi
  cases r2
  have r1' := r1.ext e2
  have ee := e1.trans e2
  have seq : (∃ xs v, seqP st2 x = some xs ∧ atI xs i = some v ∧ Q v st2) → rIx X v (.int i) H2 (Post X.K ro fr H Q) := by
    rintro ⟨xs, y, hx, hy, q⟩
    obtain ⟨a, vs, rfl, hs, rs⟩ := seqP_at S2 r1' hx
    obtain ⟨u, hu, ru⟩ := atI_reps rs hy
    rcases hs with hs | hs
    · exact toIx ix_list ⟨a, vs, i, u, rfl, rfl, hs, hu, ro2, y, st2, ee, S2, ru, q⟩
    · exact toIx ix_tup ⟨a, vs, i, u, rfl, rfl, hs, hu, ro2, y, st2, ee, S2, ru, q⟩
  cases r1' with
  | str z =>
    obtain ⟨c, hz, hc, q⟩ := h2
    exact toIx ix_str ⟨z, i, c, rfl, rfl, hz, hc, ro2, _, st2, ee, S2, .str _, q⟩
  | _ => exact seq h2

/-! ### slices -/
def cutL {α : Type} (xs : List α) (lo hi : Option Int) : List α := (xs.drop (HT.sIx xs.length 0 lo)).take (HT.sIx xs.length xs.length hi - HT.sIx xs.length 0 lo)
abbrev WO := Envp → Sto → (Option Int → Sto → Prop) → Prop
def tWO (X : Cx) (e : Option Expr) : TO := fun σ H Q => ∀ pins s, Inv X pins σ H s → wpAny (model X.prog X.w) X.A (evalPart e X.env) (fun u s' => ∃ o H', Inv X pins σ H' s' ∧ IsPart u o ∧ Q o H') X.xe s
theorem po_W (X : Cx) (e : Option Expr) : PO X e (tWO X e) := ⟨fun pins s _ _ _ I h => h pins s I⟩
theorem toWO {o : Option Expr} {t : TO} {σ : L2.St} {H : Hp} {Q} (p : PO X o t) (h : t σ H Q) : tWO X o σ H Q := fun pins s I => p.run pins s σ H Q I h
theorem tWO.mono {o : Option Expr} {σ : L2.St} {H : Hp} {Q Q' : Option Int → Hp → Prop} (h : tWO X o σ H Q) (hQ : ∀ v H, Q v H → Q' v H) : tWO X o σ H Q' := fun pins s I => thn (h pins s I) fun _ _ ⟨v, H', I, r, q⟩ => ⟨v, H', I, r, hQ _ _ q⟩
def PostO (K : PySem.W.Frag) (ro fr : List Addr) (H : Hp) (Q : Option Int → Sto → Prop) : Option Int → Hp → Prop := fun b H' => ∃ ro' st', Ext ro H ro' H' ∧ RepS K ro' fr H' st' ∧ Q b st'
structure DO (X : Cx) (e : Option Expr) (w : WO) : Prop where
  run : ∀ ro fr σ H env st Q, RepEnv X.K ro fr H env σ → RepS X.K ro fr H st → w env st Q → tWO X e σ H (PostO X.K ro fr H Q)
instance {X : Cx} {e : Option Expr} {w : WO} : CoeFun (DO X e w) (fun _ => ∀ ro fr σ H env st Q, RepEnv X.K ro fr H env σ → RepS X.K ro fr H st → w env st Q → tWO X e σ H (PostO X.K ro fr H Q)) := ⟨DO.run⟩
def oNo : WO := fun _ st Q => Q none st
def oSo (w : WE) : WO := fun env st Q => w env st fun x st1 => ∃ i, x = .int i ∧ Q (some i) st1
theorem do_no : DO X none oNo := .mk fun ro fr σ H env st Q E S h => toWO po_none ⟨ro, st, .refl, S, h⟩
theorem do_so (h : DE X e w) : DO X (some e) (oSo w) := by
  refine ⟨?_⟩
  intro ro fr σ H env st Q E S hw
  refine toWO (po_some (pe_W X e)) ?_
  refine tW.mono (h _ _ _ _ _ _ _ E S hw) fun v H1 ⟨ro1, x, st1, e1, S1, r1, i, hi, q⟩ => ?_
  subst hi
  cases r1
  exact ⟨i, rfl, ro1, st1, e1, S1, q⟩
def rSlW (X : Cx) : V → Option Int → Option Int → Hp → VK → Prop := fun x lo hi H Q => ∀ pins s σ v vl vu sl, Inv X pins σ H s → RelV x v → s.heap.IsSliceOf sl vl vu .none → IsPart vl lo → IsPart vu hi →
  ∃ T id, typeLookup (.type T) "__getitem__" = pure (some (.builtin id)) ∧ s.TypeIs v T ∧ wpAny (model X.prog X.w) X.A (getItem v (.ref sl)) (EP X pins σ Q) X.xe s
theorem sl_W (X : Cx) : SlR X (rSlW X) := fun pins s σ H x v vl vu lo hi sl Q I rx hs pl pu h => h pins s σ v vl vu sl I rx hs pl pu
theorem toSl {r} {x : V} {lo hi : Option Int} {H : Hp} {Q : VK} (p : SlR X r) (h : r x lo hi H Q) : rSlW X x lo hi H Q := fun pins s σ v vl vu sl I rx hs pl pu => p pins s σ H x v vl vu lo hi sl Q I rx hs pl pu h
def slR (m : Bool) : PV → Option Int → Option Int → Sto → (PV → Sto → Prop) → Prop := fun x lo hi st Q => match x with
  | .str z => z.length ≤ sizeLine ∧ Q (.str (cutS z lo hi)) st
  | .tup xs => Q (.tup (cutL xs lo hi)) st
  | x => ∃ xs, lstP st x = some xs ∧ newL m (cutL xs lo hi) st Q
def wSl (m : Bool) (w : WE) (wl wh : WO) : WE := fun env st Q => w env st fun x st1 => wl env st1 fun lo st2 => wh env st2 fun hi st3 => slR m x lo hi st3 Q
theorem cut_reps {K : PySem.W.Frag} {ro fr : List Addr} {H : Hp} {xs : List PV} {vs : List V} (r : RepVs K ro fr H xs vs) (lo hi : Option Int) : RepVs K ro fr H (cutL xs lo hi) (cutV vs lo hi) := by
  unfold cutL cutV
  rw [r.length]
  exact (r.drop _).take _
theorem cut_whole {α : Type} {xs : List α} {lo hi : Option Int} (h : HT.sIx xs.length 0 lo = 0 ∧ HT.sIx xs.length xs.length hi = xs.length) : cutL xs lo hi = xs := by
  unfold cutL
  rw [h.1, h.2]; simp
theorem d_slice (m : Bool) {lo hi : Option Expr} {wl wh : WO} {p2 : Pos} (he : DE X e w) (hl : DO X lo wl) (hh : DO X hi wh) : DE X (.Subscript e (.Slice lo hi none p2) pos) (wSl m w wl wh) := by
  refine ⟨?_⟩
  intro ro fr σ H env st Q E S hw
  refine toW (pe_slice (sl_W X) (pe_W X e) (po_W X lo) (po_W X hi)) ?_
  refine tW.mono (he _ _ _ _ _ _ _ E S hw) fun v H1 ⟨ro1, x, st1, e1, S1, r1, h1⟩ => ?_
  refine tWO.mono (hl _ _ _ _ _ _ _ (E.ext e1) S1 h1) fun l H2 ⟨ro2, st2, e2, S2, h2⟩ => ?_
  refine tWO.mono (hh _ _ _ _ _ _ _ ((E.ext e1).ext e2) S2 h2) fun u H3 ⟨ro3, st3, e3, S3, h3⟩ => ?_
  have r3 := (r1.ext e2).ext e3
  have ee := (e1.trans e2).trans e3
  have lists : (∃ xs, lstP st3 x = some xs ∧ newL m (cutL xs l u) st3 Q) → rSlW X v l u H3 (Post X.K ro fr H Q) := by
    rintro ⟨xs, hx, q⟩
    obtain ⟨a, vs, rfl, hs, rs⟩ := lstP_at S3 r3 hx
    exact toSl sl_list ⟨a, vs, rfl, hs, fun p hp => (new_lst m S3 (cut_reps rs l u) hp q).ext ee⟩
  cases r3 with
  | str z => exact toSl sl_str ⟨z, rfl, h3.1, ro3, _, st3, ee, S3, .str _, h3.2⟩
  | @tup a xs vs t1 r =>
    refine toSl sl_tupA ⟨a, vs, rfl, t1.sq, fun hw => ?_, fun hw p hp => (new_tup S3 (cut_reps r l u) hp h3).ext ee⟩
    rw [← r.length] at hw
    have h3' : Q (.tup (cutL xs l u)) st3 := h3
    rw [cut_whole hw] at h3'
    exact ⟨ro3, _, st3, ee, S3, .tup t1 r, h3'⟩
  | _ => exact lists h3

/-! ### calls of what is built in -/
abbrev CaP := List PV → Sto → (PV → Sto → Prop) → Prop
def cW (X : Cx) (f : Value) : List V → Hp → VK → Prop := fun xs H Q => ∀ pins s σ us, Inv X pins σ H s → Vals xs us → wpAny (model X.prog X.w) X.A (call f us) (EP X pins σ Q) X.xe s
theorem c_W (X : Cx) (f : Value) : CallR X f (cW X f) := fun pins s σ H xs us Q I r h => h pins s σ us I r
theorem toC {f : Value} {r : List V → Hp → VK → Prop} {xs : List V} {H : Hp} {Q : VK} (p : CallR X f r) (h : r xs H Q) : cW X f xs H Q := fun pins s σ us I rs => p pins s σ H xs us Q I rs h
theorem cW.mono {f : Value} {xs : List V} {H : Hp} {Q Q' : VK} (h : cW X f xs H Q) (hQ : ∀ v H, Q v H → Q' v H) : cW X f xs H Q' := fun pins s σ us I r => thn (h pins s σ us I r) fun _ _ => EP.mono hQ
structure DCa (X : Cx) (f : Value) (r : CaP) : Prop where
  run : ∀ ro fr H st xs vs Q, RepS X.K ro fr H st → RepVs X.K ro fr H xs vs → r xs st Q → cW X f vs H (Post X.K ro fr H Q)
instance {X : Cx} {f : Value} {r : CaP} : CoeFun (DCa X f r) (fun _ => ∀ ro fr H st xs vs Q, RepS X.K ro fr H st → RepVs X.K ro fr H xs vs → r xs st Q → cW X f vs H (Post X.K ro fr H Q)) := ⟨DCa.run⟩
def wCa (r : CaP) (wa : WA) : WE := fun env st Q => wa env st fun xs st1 => r xs st1 Q
theorem d_callB {r : CaP} {id : String} {x : Str} {p : Pos} (hc : DCa X (.builtin id) r) (hg : Gl X x) (hm : X.mg x = none) (hv : bootBuiltins x = some (.builtin id)) (ha : DA X (e :: es) ws) (hn : x ≠ "__name__" := by decide +kernel) (hdb : (x == ("__debug__" : Str)) = false := by decide +kernel)
    (he : starEach (e :: es) X.env = (false, eval e X.env) :: starEach es X.env := by exact star_cons (by rfl)) (hpl : (backTo pos (starEach es X.env)).any (·.1) = false := by exact star_plain (by rfl)) : DE X (.Call (.Name x p) (e :: es) [] pos) (wCa r ws) := by
  refine ⟨?_⟩
  intro ro fr σ H env st Q E S hw
  refine toW (pe_callB (c_W X _) hg hm hv (pa_W X _) hn hdb he hpl) ?_
  refine tWA.mono (ha _ _ _ _ _ _ _ E S hw) fun vs H1 ⟨ro1, xs, st1, e1, S1, r1, h1⟩ => ?_
  exact cW.mono (hc _ _ _ _ _ _ _ S1 r1 h1) fun _ _ h => h.ext e1
theorem d_callTy {r : CaP} {T : String} {x : Str} {p : Pos} (hc : DCa X (.type T) r) (hg : Gl X x) (hm : X.mg x = none) (hv : bootBuiltins x = some (.type T)) (ha : DA X (e :: es) ws) (hn : x ≠ "__name__" := by decide +kernel) (hdb : (x == ("__debug__" : Str)) = false := by decide +kernel)
    (he : starEach (e :: es) X.env = (false, eval e X.env) :: starEach es X.env := by exact star_cons (by rfl)) (hpl : (backTo pos (starEach es X.env)).any (·.1) = false := by exact star_plain (by rfl)) : DE X (.Call (.Name x p) (e :: es) [] pos) (wCa r ws) := by
  refine ⟨?_⟩
  intro ro fr σ H env st Q E S hw
  refine toW (pe_callTy (c_W X _) hg hm hv (pa_W X _) hn hdb he hpl) ?_
  refine tWA.mono (ha _ _ _ _ _ _ _ E S hw) fun vs H1 ⟨ro1, xs, st1, e1, S1, r1, h1⟩ => ?_
  exact cW.mono (hc _ _ _ _ _ _ _ S1 r1 h1) fun _ _ h => h.ext e1
def lenR : CaP := fun xs st Q => ∃ x, xs = [x] ∧ match x with
  | .str z => z.length ≤ sizeLine ∧ Q (.int z.length) st
  | x => ∃ ys, seqP st x = some ys ∧ Q (.int ys.length) st
theorem one_rep {K : PySem.W.Frag} {ro fr : List Addr} {H : Hp} {x : PV} {vs : List V} (r : RepVs K ro fr H [x] vs) : ∃ v, vs = [v] ∧ RepV K ro fr H x v := by
  cases r with
  | cons r1 r2 => cases r2; exact ⟨_, rfl, r1⟩
theorem two_rep {K : PySem.W.Frag} {ro fr : List Addr} {H : Hp} {x y : PV} {vs : List V} (r : RepVs K ro fr H [x, y] vs) : ∃ v u, vs = [v, u] ∧ RepV K ro fr H x v ∧ RepV K ro fr H y u := by
  cases r with
  | cons r1 r2 =>
    cases r2 with
    | cons r2 r3 => cases r3; exact ⟨_, _, rfl, r1, r2⟩
theorem dca_len : DCa X (.builtin "len") lenR := by
  refine ⟨?_⟩
  rintro ro fr H st xs vs Q S r ⟨x, rfl, h⟩
  obtain ⟨v, rfl, r1⟩ := one_rep r
  have seq : (∃ ys, seqP st x = some ys ∧ Q (.int ys.length) st) → cW X (.builtin "len") [v] H (Post X.K ro fr H Q) := by
    rintro ⟨ys, hy, q⟩
    obtain ⟨a, us, rfl, hs, rs⟩ := seqP_at S r1 hy
    exact toC call_len_seq ⟨a, us, rfl, hs, ro, _, st, .refl, S, .int _, by rw [← rs.length]; exact q⟩
  cases r1 with
  | str z => exact toC call_len_str ⟨z, rfl, h.1, ro, _, st, .refl, S, .int _, h.2⟩
  | _ => exact seq h
def tupleR : CaP := fun xs st Q => ∃ x ys, xs = [x] ∧ seqP st x = some ys ∧ Q (.tup ys) st
theorem dca_tuple : DCa X (.type "tuple") tupleR := by
  refine ⟨?_⟩
  rintro ro fr H st xs vs Q S r ⟨x, ys, rfl, hy, q⟩
  obtain ⟨v, rfl, r1⟩ := one_rep r
  cases r1 with
  | @tup a zs us t1 t2 =>
    simp only [seqP, Option.some.injEq] at hy
    subst hy
    exact toC call_tuple_of ⟨a, us, rfl, .inr ⟨t1.sq, ro, _, st, .refl, S, .tup t1 t2, q⟩⟩
  | fls h1 h2 =>
    obtain ⟨a, us, e, hs, rs⟩ := lstP_at S (.fls h1 h2) hy
    cases e
    exact toC call_tuple_of ⟨_, us, rfl, .inl ⟨hs, fun p hp => new_tup S rs hp q⟩⟩
  | lst h1 h2 =>
    obtain ⟨a, us, e, hs, rs⟩ := lstP_at S (.lst h1 h2) hy
    cases e
    exact toC call_tuple_of ⟨_, us, rfl, .inl ⟨hs, fun p hp => new_tup S rs hp q⟩⟩
  | ref h1 =>
    obtain ⟨a, us, e, hs, rs⟩ := lstP_at S (.ref h1) hy
    cases e
    exact toC call_tuple_of ⟨_, us, rfl, .inl ⟨hs, fun p hp => new_tup S rs hp q⟩⟩
  | _ => cases hy
def listR (m : Bool) : CaP := fun xs st Q => ∃ x ys, xs = [x] ∧ seqP st x = some ys ∧ newL m ys st Q
theorem dca_list (m : Bool) : DCa X (.type "list") (listR m) := by
  refine ⟨?_⟩
  rintro ro fr H st xs vs Q S r ⟨x, ys, rfl, hy, q⟩
  obtain ⟨v, rfl, r1⟩ := one_rep r
  obtain ⟨a, us, rfl, hs, rs⟩ := seqP_at S r1 hy
  exact toC call_list_of ⟨a, us, rfl, hs, fun p hp => new_lst m S rs hp q⟩
def pInts (ns : List Int) : List PV := ns.map PV.int
def pBls (ns : List Bool) : List PV := ns.map PV.bl
def pStrs (ns : List Str) : List PV := ns.map PV.str
theorem reps_ints {K : PySem.W.Frag} {ro fr : List Addr} {H : Hp} {ns : List Int} {vs : List V} (r : RepVs K ro fr H (pInts ns) vs) : vs = ns.map V.int := by
  induction ns generalizing vs with
  | nil => cases r; rfl
  | cons n ns ih =>
    cases r with
    | cons r1 r2 => cases r1; rw [ih r2]; rfl
theorem reps_bls {K : PySem.W.Frag} {ro fr : List Addr} {H : Hp} {ns : List Bool} {vs : List V} (r : RepVs K ro fr H (pBls ns) vs) : vs = ns.map V.bl := by
  induction ns generalizing vs with
  | nil => cases r; rfl
  | cons n ns ih =>
    cases r with
    | cons r1 r2 => cases r1; rw [ih r2]; rfl
theorem reps_strs {K : PySem.W.Frag} {ro fr : List Addr} {H : Hp} {ns : List Str} {vs : List V} (r : RepVs K ro fr H (pStrs ns) vs) : vs = ns.map V.str := by
  induction ns generalizing vs with
  | nil => cases r; rfl
  | cons n ns ih =>
    cases r with
    | cons r1 r2 => cases r1; rw [ih r2]; rfl
theorem ints_reps {K : PySem.W.Frag} {ro fr : List Addr} {H : Hp} : ∀ ns : List Int, RepVs K ro fr H (pInts ns) (ns.map V.int)
  | [] => .nil
  | n :: ns => .cons (.int n) (ints_reps ns)
theorem strs_reps {K : PySem.W.Frag} {ro fr : List Addr} {H : Hp} : ∀ ns : List Str, RepVs K ro fr H (pStrs ns) (ns.map V.str)
  | [] => .nil
  | n :: ns => .cons (.str n) (strs_reps ns)
def sumR : CaP := fun xs st Q => ∃ x ns, xs = [x] ∧ lstP st x = some (pInts ns) ∧ Q (.int ns.sum) st
theorem dca_sum (hc : X.calm = true) : DCa X (.builtin "sum") sumR := by
  refine ⟨?_⟩
  rintro ro fr H st xs vs Q S r ⟨x, ns, rfl, hy, q⟩
  obtain ⟨v, rfl, r1⟩ := one_rep r
  obtain ⟨a, us, rfl, hs, rs⟩ := lstP_at S r1 hy
  rw [reps_ints rs] at hs
  exact toC (cr_sum hc) ⟨a, ns, rfl, hs, ro, _, st, .refl, S, .int _, q⟩
def allR : CaP := fun xs st Q => ∃ x bs, xs = [x] ∧ lstP st x = some (pBls bs) ∧ Q (.bl (bs.all id)) st
theorem dca_all (hc : X.calm = true) : DCa X (.builtin "all") allR := by
  refine ⟨?_⟩
  rintro ro fr H st xs vs Q S r ⟨x, ns, rfl, hy, q⟩
  obtain ⟨v, rfl, r1⟩ := one_rep r
  obtain ⟨a, us, rfl, hs, rs⟩ := lstP_at S r1 hy
  rw [reps_bls rs] at hs
  exact toC (cr_all hc) ⟨a, ns, rfl, hs, ro, _, st, .refl, S, .bl _, q⟩
def anyR : CaP := fun xs st Q => ∃ x bs, xs = [x] ∧ lstP st x = some (pBls bs) ∧ Q (.bl (bs.any id)) st
theorem dca_any (hc : X.calm = true) : DCa X (.builtin "any") anyR := by
  refine ⟨?_⟩
  rintro ro fr H st xs vs Q S r ⟨x, ns, rfl, hy, q⟩
  obtain ⟨v, rfl, r1⟩ := one_rep r
  obtain ⟨a, us, rfl, hs, rs⟩ := lstP_at S r1 hy
  rw [reps_bls rs] at hs
  exact toC (cr_any hc) ⟨a, ns, rfl, hs, ro, _, st, .refl, S, .bl _, q⟩
def intR : CaP := fun xs st Q => ∃ x, xs = [x] ∧ match x with
  | .int i => Q (.int i) st
  | .bl k => Q (.int (if k then 1 else 0)) st
  | _ => False
theorem dca_int : DCa X (.type "int") intR := by
  refine ⟨?_⟩
  rintro ro fr H st xs vs Q S r ⟨x, rfl, h⟩
  obtain ⟨v, rfl, r1⟩ := one_rep r
  cases r1 with
  | int i => exact toC call_int1 (.inl ⟨i, rfl, ro, _, st, .refl, S, .int _, h⟩)
  | bl k => exact toC call_int1 (.inr ⟨k, rfl, ro, _, st, .refl, S, .int _, h⟩)
  | _ => exact h.elim
def max2R : CaP := fun xs st Q => ∃ i j, xs = [.int i, .int j] ∧ Q (.int (if j > i then j else i)) st
def min2R : CaP := fun xs st Q => ∃ i j, xs = [.int i, .int j] ∧ Q (.int (if j < i then j else i)) st
theorem dca_max2 (hc : X.calm = true) : DCa X (.builtin "max") max2R := by
  refine ⟨?_⟩
  rintro ro fr H st xs vs Q S r ⟨i, j, rfl, q⟩
  obtain ⟨v, u, rfl, r1, r2⟩ := two_rep r
  cases r1; cases r2
  exact toC (call_max2 hc) ⟨i, j, rfl, ro, _, st, .refl, S, .int _, q⟩
theorem dca_min2 (hc : X.calm = true) : DCa X (.builtin "min") min2R := by
  refine ⟨?_⟩
  rintro ro fr H st xs vs Q S r ⟨i, j, rfl, q⟩
  obtain ⟨v, u, rfl, r1, r2⟩ := two_rep r
  cases r1; cases r2
  exact toC (call_min2 hc) ⟨i, j, rfl, ro, _, st, .refl, S, .int _, q⟩

/-! ### isinstance(x, T), T one built-in class -/
def tyP (st : Sto) : PV → Option String
  | .non => some "NoneType"
  | .bl _ => some "bool"
  | .int _ => some "int"
  | .str _ => some "str"
  | .tup _ => some "tuple"
  | .lst _ | .fls _ => some "list"
  | .dk _ _ => some "dict"
  | .ref n => match st[n]? with
    | some (.lst _) => some "list"
    | some (.dk _ _) => some "dict"
    | some (.dt _ _) => some "dict"
    | _ => none
def isiB (t T : String) : Bool := t == T || (t == "bool" && T == "int")
theorem kitB_all : ∀ t ∈ ["NoneType", "bool", "int", "str", "tuple", "list", "dict"], ∀ T ∈ ["bool", "int", "str", "tuple", "list", "dict"], kitB t T = some (isiB t T) := by decide +kernel
theorem tyX_of {K : PySem.W.Frag} {ro fr : List Addr} {H : Hp} {st : Sto} {x : PV} {v : V} {t : String} (S : RepS K ro fr H st) (r : RepV K ro fr H x v) (h : tyP st x = some t) : TyX K H v (.type t) ∧ t ∈ ["NoneType", "bool", "int", "str", "tuple", "list", "dict"] := by
  cases r with
  | non => cases h; exact ⟨.base .non, by decide⟩
  | bl _ => cases h; exact ⟨.base (.bl _), by decide⟩
  | int _ => cases h; exact ⟨.base (.int _), by decide⟩
  | str _ => cases h; exact ⟨.base (.str _), by decide⟩
  | tup h1 h2 =>
    cases h
    refine ⟨?_, by decide⟩
    rcases h1.sq with (h | ⟨o, h⟩) | ⟨o, its, n, h1, h2, _⟩
    · exact .base (.tup h)
    · exact .fTuple h
    · exact .kTuple h1 h2
  | lst h1 h2 => cases h; exact ⟨.base (.lst h1.1), by decide⟩
  | fls h1 h2 =>
    cases h
    refine ⟨?_, by decide⟩
    rcases h1.sq with (h | ⟨o, h⟩) | ⟨o, its, n, h1, h2, _⟩
    · exact .base (.lst h)
    · exact .base (.frz h)
    · exact .kList h1 h2
  | dk h1 h2 h3 => cases h; exact ⟨.base (.dK h1.1), by decide⟩
  | @ref a n h1 =>
    simp only [tyP] at h
    split at h
    · rename_i xs hc
      cases h
      obtain ⟨vs, q1, q2⟩ := S.at_ n _ a hc h1
      exact ⟨.base (.lst q1), by decide⟩
    · rename_i ks xs hc
      cases h
      obtain ⟨kvs, q1, q2, q3⟩ := S.at_ n _ a hc h1
      exact ⟨.base (.dK q1), by decide⟩
    · rename_i ks xs hc
      cases h
      obtain ⟨kvs, q1, q2, q3⟩ := S.at_ n _ a hc h1
      exact ⟨.base (.dT q1), by decide⟩
    · cases h
def wIsi (T : String) (w : WE) : WE := fun env st Q => w env st fun x st1 => ∃ t, tyP st1 x = some t ∧ Q (.bl (isiB t T)) st1
theorem d_isi {T : String} {y : Str} {p p2 : Pos} (hT : T ∈ ["bool", "int", "str", "tuple", "list", "dict"]) (hg : Gl X "isinstance") (hm : X.mg "isinstance" = none) (hg2 : Gl X y) (hm2 : X.mg y = none) (hv2 : bootBuiltins y = some (.type T)) (ha : DE X a wa)
    (hn2 : y ≠ "__name__" := by decide +kernel) (hd2 : (y == ("__debug__" : Str)) = false := by decide +kernel)
    (he : starEach (a :: [.Name y p2]) X.env = (false, eval a X.env) :: starEach [.Name y p2] X.env := by exact star_cons (by rfl)) (hpl : (backTo pos (starEach [.Name y p2] X.env)).any (·.1) = false := by exact star_plain (by rfl)) :
    DE X (.Call (.Name "isinstance" p) [a, .Name y p2] [] pos) (wIsi T wa) := by
  refine ⟨?_⟩
  intro ro fr σ H env st Q E S hw
  refine toW (pe_callB call_isi hg hm PyProof.Rows.boot_isinstance (pa_cons (pe_W X a) (pa_cons (pe_bltn (v := .ty T) hg2 hm2 hv2 rfl hn2 hd2) pa_nil) he) (by decide) (by decide) he hpl) ?_
  refine tW.mono (ha _ _ _ _ _ _ _ E S hw) fun v H1 ⟨ro1, x, st1, e1, S1, r1, t, ht, q⟩ => ?_
  obtain ⟨h1, h2⟩ := tyX_of S1 r1 ht
  exact ⟨v, .ty T, .type t, .type T, isiB t T, rfl, .ty T, h1, kit_ty (kitB_all t h2 T hT), ro1, _, st1, e1, S1, .bl _, q⟩
end
end Pv

/-! Pv6: what is walked, by values. -/
namespace Pv
open PySem PySem.Spec L2

/-! ### enumerate of a tuple -/
theorem meets_enum_one {v : Value} {o : Obj} {H : Heap → Prop} (B : Begins v o H) :
    Meets (Builtin.«enumerate.__new__» ⟨[.type "enumerate", v], []⟩) (fun _ R s => H s.heap ∧
      R (.ok (.ret (.ref (s.heap.push o).objs.size))) { s with heap := (s.heap.push o).push { cls := .type "enumerate", data := .fields #[.none, .bool false, .ref s.heap.objs.size, rawInt 0, .none, .none] } }) :=
  .of_wp fun prog w A R s h => by
    obtain ⟨hp, g, d, tk, os⟩ := s; obtain ⟨h1, h⟩ := h
    have hsub := sub_enumerate
    have q1 : ∀ {A' : Around} {E : Value → Shared → Prop} {Q : Value → Shared → Prop}, Q (.ref hp.objs.size) ⟨hp.push o, g, d, tk, os⟩ → wpAny (model prog w) A' (pyIter v) Q E ⟨hp, g, d, tk, os⟩ :=
      fun q => B.iter prog w _ _ ⟨hp, g, d, tk, os⟩ _ h1 q
    wp_walk using q1
    refine wpAny_stack_any fun st => wpAny_pure ?_
    split
    · rename_i c _ _ _ _ _
      cases (c == Value.type "enumerate")
      · wp_walk using q1
        exact ⟨_, rfl, h⟩
      · wp_walk using q1
        exact ⟨_, rfl, h⟩
    · wp_walk using q1
      exact ⟨_, rfl, h⟩
section
variable {prog : Program} {w : World} {A : Around} {E : Value → Shared → Prop} {s : Shared}
theorem enum_one {v : Value} {o : Obj} {H : Heap → Prop} {Q : Value → Shared → Prop} (B : Begins v o H) (h1 : H s.heap)
    (h : ∀ h', IsEnum h' (s.heap.objs.size + 1) s.heap.objs.size 0 .none → h'.get? s.heap.objs.size = some o → h'.objs.size = s.heap.objs.size + 2 →
      (∀ b o, s.heap.get? b = some o → h'.get? b = some o) → Q (.ref (s.heap.objs.size + 1)) { s with heap := h' }) :
    wpAny (model prog w) A (call (.type "enumerate") [v]) Q E s := by
  refine callType_new F.called_enumerate (by decide) (F.typeCall_enumerate_1 _) (F.newCall_enumerate_1 _) (fun obj => F.args_object_init_2 obj _) F.entry_enumerate_new
    (meets_enum_one B) ⟨h1, ?_⟩
  have hz : (s.heap.push o).objs.size = s.heap.objs.size + 1 := Heap.size_push ..
  show _ ∧ _
  rw [hz]
  have he : IsEnum ((s.heap.push o).push { cls := .type "enumerate", data := .fields #[.none, .bool false, .ref s.heap.objs.size, rawInt 0, .none, .none] }) (s.heap.objs.size + 1) s.heap.objs.size 0 .none := by
    have := Heap.get?_push_size (s.heap.push o) (o := { cls := .type "enumerate", data := .fields #[.none, .bool false, .ref s.heap.objs.size, rawInt 0, .none, .none] }) rfl
    rw [hz] at this; exact this
  refine ⟨⟨_, he, rfl⟩, h _ he (Heap.get?_push_of_some _ (Heap.get?_push_size _ B.free)) (by rw [Heap.size_push, hz]) fun b o x => Heap.get?_push_of_some _ (Heap.get?_push_of_some _ x)⟩
end
def IteT (K : PySem.W.Frag) (a : Addr) : It :=
  ⟨fun i H => ∃ (xs : List V) (x : V), SqT K H a xs ∧ xs[i]? = some x, fun i H v H' => ∃ T x, v = .ref T ∧ H T = none ∧ H' = upd H T (.tup [.int (i : Nat), x]) ∧ ∀ xs, SqT K H a xs → xs[i]? = some x, fun i H => ∃ xs : List V, SqT K H a xs ∧ xs.length ≤ i⟩
theorem turn_enumT {P : Program} {w : World} {K : PySem.W.Frag} {elts : List Expr} {kk : Nat} {tpos : Pos} (a e it : Addr) :
    Turn P w K (.Tuple elts kk tpos) (IteT K a) [e, it] e (fun i h => (∃ old, IsEnum h e it ((i : Nat) : Int) old) ∧ h.IsTupleIter it a i ∧ e ≠ it) where
  mem := by simp
  obj := fun i h st b hb => by
    obtain ⟨⟨old, he⟩, ⟨o, ho, hc, hd⟩, _⟩ := st
    have e' : b = e ∨ b = it := by simpa using hb
    rcases e' with z | z
    · rw [z]; exact ⟨_, he, fun v q => nomatch q⟩
    · rw [z]; exact ⟨o, ho, fun v q => by rw [hd] at q; cases q⟩
  keep := fun i h h' st k => let ⟨⟨old, he⟩, hi, hne⟩ := st; ⟨⟨old, k e (by simp) _ he⟩, hi.at fun o q => k it (by simp) o q, hne⟩
  item := by
    intro X hP hw hK hc i pins s σ H E I hf st hg
    subst hP hw hK
    obtain ⟨⟨old, he⟩, hit, hne⟩ := st
    obtain ⟨xs, x, hq, hx⟩ := hg
    obtain ⟨its, rv, p, hz⟩ := I.tuple hq
    obtain ⟨u, hu, ru⟩ := rv.get hx
    have hel : e < s.heap.objs.size := Heap.lt_size he
    have hil : it < s.heap.objs.size := by obtain ⟨_, q, _⟩ := hit; exact Heap.lt_size q
    have pT : s.heap.IsTuple a its.toArray := p
    have nea : a ≠ e := fun z => by
      obtain ⟨o, q1, q2, _⟩ := pT
      rw [z, he] at q1; cases q1; simp at q2
    have nei : a ≠ it := fun z => by
      obtain ⟨o, q1, q2, _⟩ := pT
      obtain ⟨o', q3, q4, _⟩ := hit
      rw [z, q3] at q1; cases q1; rw [q4] at q2; exact absurd q2 (by decide)
    have D : Draws X.prog X.w X.A.in1 it [it, a] its.toArray.size (fun i v => its.toArray[i]? = some v) (fun i h => h.IsTupleIter it a i ∧ h.IsTuple a its.toArray) :=
      Draws.tuple (by exact I.ok.hd hc) it a nei its.toArray
    refine wpAny_pyNext_enum_itemD D he ⟨hit, pT⟩ (by have := (List.getElem?_eq_some_iff.mp hu).1; simpa using this) hne (by simp only [List.mem_cons, List.not_mem_nil, or_false, not_or]; exact ⟨hne, Ne.symm nea⟩) fun x' h' tk hP ho hs' hT hsz hk => ?_
    have hx' : x' = u := by
      have := hP
      simp only [List.getElem?_toArray] at this
      rw [hu] at this; exact (Option.some.inj this).symm
    subst hx'
    refine ⟨_, rfl, wpAny_letOwnedTupleGo_enum (s := { s with heap := h', toks := tk + 1 }) ho fun h'' he' sb => ?_⟩
    have hT2 : h''.get? s.heap.objs.size = some { cls := .type "tuple", data := .seq #[.int i tk, x'] } := (sb.2 _ (Nat.ne_of_gt hel)).trans hT
    have new : ObjOk X.prog X.w (upd H s.heap.objs.size (.tup [.int (i : Nat), x])) h'' s.heap.objs.size (.tup [.int (i : Nat), x]) :=
      ⟨by show 2 ≤ sizeLine; decide, [.int i tk, x'], .cons ⟨_, rfl⟩ (.cons ru .nil), ⟨_, hT2, rfl, _, rfl⟩⟩
    have I1 : Inv X pins σ (upd H s.heap.objs.size (.tup [.int (i : Nat), x])) { s with heap := h'', toks := tk + 1 } :=
      I.turnedNew (ch := [e, it]) (fun b ob hb q => (sb.2 b (fun z => hb (by simp [z]))).trans (hk b ob (fun z => hb (by simp [z])) (fun z => hb (by simp [z])) q)) hf (Nat.le_refl _) new
    refine ⟨.ref s.heap.objs.size, _, I1, rfl, ⟨_, x, rfl, I.hok.fresh (Nat.le_refl _), rfl, fun ys hy => by rw [I.tuple_inj hy hq]; exact hx⟩, ⟨⟨x', ?_⟩, hs'.1.at fun o q => (sb.2 it (Ne.symm hne)).trans q, hne⟩, fun b hb => ?_⟩
    · have e1 : ((i + 1 : Nat) : Int) = (i : Int) + 1 := by omega
      rw [e1]; exact he'
    · have hb' : b < s.heap.objs.size := by
        have e' : b = e ∨ b = it := by simpa using hb
        rcases e' with z | z
        · rw [z]; exact hel
        · rw [z]; exact hil
      rw [upd_ne (Nat.ne_of_lt hb')]
      exact (hf b hb).1
  done := by
    intro X hP hw hK hc i pins s σ H E I hf st hg
    subst hP hw hK
    obtain ⟨⟨old, he⟩, hit, hne⟩ := st
    obtain ⟨xs, hq, hx⟩ := hg
    obtain ⟨its, rv, p, hz⟩ := I.tuple hq
    obtain ⟨f0, f1, f2, f3, f4, f5⟩ := hf it (by simp)
    have hl := rv.length
    have pT : s.heap.IsTuple a its.toArray := p
    have nei : a ≠ it := fun z => by
      obtain ⟨o, q1, q2, _⟩ := pT
      obtain ⟨o', q3, q4, _⟩ := hit
      rw [z, q3] at q1; cases q1; rw [q4] at q2; exact absurd q2 (by decide)
    have hT : s.TypeIs (.ref e) "enumerate" := ⟨_, he, rfl⟩
    unfold pyNext
    refine wpAny_bind (wpAny_attempt (wpAny_callSpecial?_slot (name := Str.ofString "__next__") hT F.slot_enumerate_next
      (wpAny_call_entry F.slot_enumerate_next hT F.entry_enumerate_next ?_ (F.args_enumerate_next_1 _))))
    show wpAny _ _ (field (.ref e) 2 >>= _) _ _ _
    refine wpAny_bind (wpAny_field he rfl (x := .ref it) rfl ?_)
    refine wpAny_bind (wpAny_nextOf_tuple_end (by exact I.ok.hd hc) hit pT (by simp; omega) fun h' x he' hx' => ?_)
    obtain ⟨o, ho, hc2⟩ := hx'
    refine wpAny_bind (wpAny_isInstance (T := "StopIteration") (b := true) ⟨o, ho, hc2⟩ isSubtype_stop ?_)
    exact wpAny_pure ⟨rfl, I.turned (t' := s.toks) (fun b o hb q => he' b o hb q) f0 f1 f3 f4 f5⟩
  self := fun A i s Q E st h => let ⟨⟨_, he⟩, _⟩ := st; wpAny_pyIter_enum he h

section
variable {X : Cx}
def iEnumA (K : PySem.W.Frag) (ta : TA) : TI := fun σ H R => ta σ H fun vs H1 => ∃ a xs, vs = [.ref a] ∧ ((SqL K H1 a xs ∧ R (Ite K a) H1) ∨ (SqT K H1 a xs ∧ R (IteT K a) H1))
theorem pi_enumA {e : Expr} {ta : TA} {p pos tpos : Pos} {elts : List Expr} {kk : Nat} (hg : Gl X "enumerate") (hm : X.mg "enumerate" = none) (ha : PA X [e] ta) (hs : starEach [e] X.env = [(false, eval e X.env)] := by rfl) :
    PI X (.Tuple elts kk tpos) (.Call (.Name "enumerate" p) [e] [] pos) (iEnumA X.K ta) := by
  refine ⟨fun pins s σ H R I h => ?_⟩
  refine PyProof.Rows.Call_ (ld_blt I hg hm PyProof.Rows.boot_enumerate (PyProof.Rows.callWith_type1 (thn (ha.run pos pins s σ H _ I h) fun us s1 ⟨vs, H1, I1, r1, q1⟩ => ?_) hs rfl))
  obtain ⟨a, xs, ex, q1⟩ := q1
  subst ex
  cases r1 with
  | cons r rr =>
    cases rr
    cases r
    have fin : ∀ {h' : Heap} {tn J}, (∀ b o, s1.heap.get? b = some o → h'.get? b = some o) → Turn X.prog X.w X.K (.Tuple elts kk tpos) J [s1.heap.objs.size + 1, s1.heap.objs.size] (s1.heap.objs.size + 1) tn → tn 0 h' → R J H1 →
        PIE X pins σ (.Tuple elts kk tpos) R (.ref (s1.heap.objs.size + 1)) { s1 with heap := h' } := fun hk T t0 q => by
      refine ⟨s1.heap.objs.size + 1, [s1.heap.objs.size + 1, s1.heap.objs.size], _, _, H1, rfl, I1.kept (t' := s1.toks) hk, T, t0, fun b hb => ?_, q⟩
      have e' : b = s1.heap.objs.size + 1 ∨ b = s1.heap.objs.size := by simpa using hb
      have hle : s1.heap.objs.size ≤ b := by
        rcases e' with z | z
        · rw [z]; exact Nat.le_add_right _ _
        · rw [z]; exact Nat.le_refl _
      exact I1.fpOk hle (I1.hok.fresh hle)
    rcases q1 with ⟨hq, q⟩ | ⟨hq, q⟩
    · obtain ⟨its, rv, p', hz⟩ := I1.list hq
      exact call_enumerate_list p'.isList fun h' he hit hsz hk => wpAny_pyIter_enum he (fin hk (turn_enum a _ _) ⟨⟨.none, he⟩, hit, Nat.succ_ne_self _⟩ q)
    · obtain ⟨its, rv, p', hz⟩ := I1.tuple hq
      exact enum_one (begins_tuple a its.toArray) (show s1.heap.IsTuple a its.toArray from p') fun h' he hit hsz hk => wpAny_pyIter_enum he (fin hk (turn_enumT a _ _) ⟨⟨.none, he⟩, ⟨_, hit, rfl, rfl⟩, Nat.succ_ne_self _⟩ q)
end
end Pv

/-! Pv7: loops over values, methods, stores by index. -/
namespace Pv
open PySem PySem.Spec L2

/-! ### iterators by value -/
def gdOf (x : PV) (xs : List PV) : Sto → Prop := match x with
  | .ref n => fun st => st[n]? = some (.lst xs)
  | _ => fun _ => True
def itP (st : Sto) : PV → Option (List PV)
  | .str z => some (z.cps.toList.map fun c => .str ⟨#[c]⟩)
  | x => seqP st x
def iVal (w : WE) : WI := fun env st R => w env st fun x st1 => ∃ xs, itP st1 x = some xs ∧ R ⟨xs, gdOf x xs⟩ st1
section
variable {K : PySem.W.Frag} {ro fr : List Addr} {H : Hp} {st : Sto} {x : PV} {v : V} {xs : List PV}
/-- what stands as a sequence stands so as long as its guard holds -/
theorem seq_kept {st' : Sto} (h : seqP st x = some xs) (g : gdOf x xs st') : seqP st' x = some xs := by
  cases x with
  | ref n =>
    have g' : st'[n]? = some (.lst xs) := g
    simp only [seqP, lstP, lstS, g']
  | _ => exact h
theorem gd_now (h : seqP st x = some xs) : gdOf x xs st := by
  cases x with
  | ref n =>
    show st[n]? = some (.lst xs)
    simp only [seqP, lstP, lstS] at h
    split at h
    · cases h; assumption
    · cases h
  | _ => trivial
theorem lst_kept {st' : Sto} (h : lstP st x = some xs) (g : gdOf x xs st') : lstP st' x = some xs := by
  cases x with
  | ref n =>
    have g' : st'[n]? = some (.lst xs) := g
    simp only [lstP, lstS, g']
  | _ => exact h
theorem seqP_kind (S : RepS K ro fr H st) (r : RepV K ro fr H x v) (h : seqP st x = some xs) :
    ∃ a, v = .ref a ∧ ((x = .tup xs ∧ ∃ vs, SqT K H a vs ∧ RepVs K ro fr H xs vs) ∨ (lstP st x = some xs ∧ ∃ vs, SqL K H a vs ∧ RepVs K ro fr H xs vs)) := by
  cases r with
  | tup h1 h2 => simp only [seqP, Option.some.injEq] at h; subst h; exact ⟨_, rfl, .inl ⟨rfl, _, h1.sq, h2⟩⟩
  | fls h1 h2 => obtain ⟨a, vs, q, q2, q3⟩ := lstP_at S (.fls h1 h2) h; exact ⟨a, q, .inr ⟨h, vs, q2, q3⟩⟩
  | lst h1 h2 => obtain ⟨a, vs, q, q2, q3⟩ := lstP_at S (.lst h1 h2) h; exact ⟨a, q, .inr ⟨h, vs, q2, q3⟩⟩
  | ref h1 => obtain ⟨a, vs, q, q2, q3⟩ := lstP_at S (.ref h1) h; exact ⟨a, q, .inr ⟨h, vs, q2, q3⟩⟩
  | _ => cases h
/-- a list that is walked -/
theorem it_lst (r : RepV K ro fr H x v) {a : Addr} (hv : v = .ref a) (h : lstP st x = some xs) : RepIt K ro fr H (Itl K a) ⟨xs, gdOf x xs⟩ := by
  intro fr' ro' H' st' hf e S g
  have r' := (r.more hf).ext e
  obtain ⟨b, vs, hb, sq, rs⟩ := lstP_at S r' (lst_kept h g)
  rw [hv] at hb; cases hb
  refine ⟨fun i y hy => ?_, vs, sq, by show vs.length ≤ xs.length; rw [rs.length]; exact Nat.le_refl _⟩
  obtain ⟨u, hu, ru⟩ := rs.get hy
  refine ⟨⟨vs, u, sq, hu⟩, fun v' H'' q => ?_⟩
  obtain ⟨rfl, q⟩ := q
  have := q vs sq
  rw [hu] at this; cases this
  exact ⟨.refl, S, ru⟩
theorem it_tup (r : RepV K ro fr H (.tup xs) v) {a : Addr} (hv : v = .ref a) : RepIt K ro fr H (Itt K a) ⟨xs, gdOf (.tup xs) xs⟩ := by
  intro fr' ro' H' st' hf e S g
  have r' := (r.more hf).ext e
  subst hv
  cases r' with
  | @tup _ _ vs t1 rs =>
    refine ⟨fun i y hy => ?_, vs, t1.sq, by show vs.length ≤ xs.length; rw [rs.length]; exact Nat.le_refl _⟩
    obtain ⟨u, hu, ru⟩ := rs.get hy
    refine ⟨⟨vs, u, t1.sq, hu⟩, fun v' H'' q => ?_⟩
    obtain ⟨rfl, q⟩ := q
    have := q vs t1.sq
    rw [hu] at this; cases this
    exact ⟨.refl, S, ru⟩
theorem it_str {z : Str} : RepIt K ro fr H (Its z) ⟨z.cps.toList.map fun c => .str ⟨#[c]⟩, gdOf (.str z) (z.cps.toList.map fun c => .str ⟨#[c]⟩)⟩ := by
  intro fr' ro' H' st' hf e S g
  refine ⟨fun i y hy => ?_, by show z.cps.size ≤ _; simp⟩
  have hy' : (z.cps.toList.map fun c => PV.str ⟨#[c]⟩)[i]? = some y := hy
  rw [List.getElem?_map] at hy'
  cases hc : z.cps.toList[i]? with
  | none => rw [hc] at hy'; cases hy'
  | some c =>
    rw [hc] at hy'; cases hy'
    have hi := (List.getElem?_eq_some_iff.mp hc).1
    refine ⟨show i < z.cps.size by simpa using hi, fun v' H'' q => ?_⟩
    obtain ⟨rfl, c', hc', rfl⟩ := q
    have : z.cps[i]? = some c := by simpa using hc
    rw [this] at hc'; cases hc'
    exact ⟨.refl, S, .str _⟩
def rgP (lo : Int) (n : Nat) : List PV := (List.range n).map fun i => PV.int (lo + (i : Nat))
theorem it_rng {lo : Int} {n : Nat} : RepIt K ro fr H (Itr lo n) ⟨rgP lo n, fun _ => True⟩ := by
  intro fr' ro' H' st' hf e S g
  refine ⟨fun i y hy => ?_, by show n ≤ (rgP lo n).length; simp [rgP]⟩
  have hi : i < n := by
    have := (List.getElem?_eq_some_iff.mp hy).1
    simpa [rgP] using this
  refine ⟨hi, fun v' H'' q => ?_⟩
  obtain ⟨rfl, rfl⟩ := q
  have hy' : (rgP lo n)[i]? = some y := hy
  simp only [rgP, List.getElem?_map, List.getElem?_range hi, Option.map_some, Option.some.injEq] at hy'
  subst hy'
  exact ⟨.refl, S, .int _⟩
def enP (xs : List PV) : List PV := xs.mapIdx fun i y => .tup [.int (i : Nat), y]
theorem new_pair {K : PySem.W.Frag} {ro fr : List Addr} {H : Hp} {st : Sto} {T : Addr} {x y : PV} {v u : V} (S : RepS K ro fr H st) (hT : H T = none) (r1 : RepV K ro fr H x v) (r2 : RepV K ro fr H y u) :
    Ext ro H ro (upd H T (.tup [v, u])) ∧ RepS K ro fr (upd H T (.tup [v, u])) st ∧ RepV K ro fr (upd H T (.tup [v, u])) (.tup [x, y]) (.ref T) :=
  ⟨ext_new hT, S.new hT, .tup (.inl ⟨.inl upd_same, S.fresh hT⟩) (.cons (r1.ext (ext_new hT)) (.cons (r2.ext (ext_new hT)) .nil))⟩
theorem en_get {xs : List PV} {i : Nat} {y : PV} (h : (enP xs)[i]? = some y) : ∃ z, xs[i]? = some z ∧ y = .tup [.int (i : Nat), z] := by
  unfold enP at h
  rw [List.getElem?_mapIdx] at h
  cases e : xs[i]? with
  | none => rw [e] at h; cases h
  | some z => rw [e] at h; cases h; exact ⟨z, rfl, rfl⟩
theorem it_enL (r : RepV K ro fr H x v) {a : Addr} (hv : v = .ref a) (h : lstP st x = some xs) : RepIt K ro fr H (Ite K a) ⟨enP xs, gdOf x xs⟩ := by
  intro fr' ro' H' st' hf e S g
  have r' := (r.more hf).ext e
  obtain ⟨b, vs, hb, sq, rs⟩ := lstP_at S r' (lst_kept h g)
  rw [hv] at hb; cases hb
  refine ⟨fun i y hy => ?_, vs, sq, by show vs.length ≤ (enP xs).length; simp [enP, rs.length]⟩
  obtain ⟨y, hy2, rfl⟩ := en_get hy
  obtain ⟨u, hu, ru⟩ := rs.get hy2
  refine ⟨⟨vs, u, sq, hu⟩, fun v' H'' q => ?_⟩
  obtain ⟨T, w, rfl, hT, rfl, q⟩ := q
  have := q vs sq
  rw [hu] at this; cases this
  exact new_pair S hT (.int _) ru
theorem it_enT (r : RepV K ro fr H (.tup xs) v) {a : Addr} (hv : v = .ref a) : RepIt K ro fr H (IteT K a) ⟨enP xs, gdOf (.tup xs) xs⟩ := by
  intro fr' ro' H' st' hf e S g
  have r' := (r.more hf).ext e
  subst hv
  cases r' with
  | @tup _ _ vs t1 rs =>
    refine ⟨fun i y hy => ?_, vs, t1.sq, by show vs.length ≤ (enP xs).length; simp [enP, rs.length]⟩
    obtain ⟨y, hy2, rfl⟩ := en_get hy
    obtain ⟨u, hu, ru⟩ := rs.get hy2
    refine ⟨⟨vs, u, t1.sq, hu⟩, fun v' H'' q => ?_⟩
    obtain ⟨T, w, rfl, hT, rfl, q⟩ := q
    have := q vs t1.sq
    rw [hu] at this; cases this
    exact new_pair S hT (.int _) ru
end
section
variable {X : Cx} {tg e a b : Expr} {w : WE} {wa : WA} {p pos : Pos}
theorem pi_any {te : TE} (he : PE X e te) : PI X tg e (fun σ H R => te σ H fun v H1 => (∃ a xs, v = .ref a ∧ SqL X.K H1 a xs ∧ R (Itl X.K a) H1) ∨ (∃ a xs, v = .ref a ∧ SqT X.K H1 a xs ∧ R (Itt X.K a) H1) ∨ ∃ x, v = .str x ∧ R (Its x) H1) := by
  refine ⟨fun pins s σ H R I h => ?_⟩
  refine thn (he.run pins s σ H _ I h) fun v s1 ⟨y, H1, I1, r1, q⟩ => ?_
  rcases q with ⟨a, xs, rfl, hq, q⟩ | ⟨a, xs, rfl, hq, q⟩ | ⟨x, rfl, q⟩
  · cases r1
    obtain ⟨its, rv, p, hz⟩ := I1.list hq
    refine wpAny_pyIter_list p.isList ?_
    exact pi_one (tk := s1.toks) I1 _ (turn_list a _) ⟨_, Heap.get?_push_size _ rfl, rfl, rfl⟩ q
  · cases r1
    obtain ⟨its, rv, p, hz⟩ := I1.tuple hq
    refine wpAny_pyIter_tuple (show s1.heap.IsTuple a its.toArray from p) ?_
    exact pi_one (tk := s1.toks) I1 _ (turn_tuple a _) ⟨_, Heap.get?_push_size _ rfl, rfl, rfl⟩ q
  · obtain ⟨t, rfl⟩ := r1
    cases ha : x.cps.all (· < 128)
    · exact wpAny_pyIter_wide ha (pi_one (tk := s1.toks) I1 _ (turn_str _ x t "str_iterator" (.inr rfl)) ⟨_, Heap.get?_push_size _ rfl, rfl, rfl⟩ q)
    · exact wpAny_pyIter_ascii ha (pi_one (tk := s1.toks) I1 _ (turn_str _ x t "str_ascii_iterator" (.inl rfl)) ⟨_, Heap.get?_push_size _ rfl, rfl, rfl⟩ q)
theorem di_val (h : DE X e w) : DI X tg e (iVal w) := by
  refine ⟨?_⟩
  intro ro fr σ H env st R E S hw
  refine toWI (pi_any (pe_W X e)) ?_
  refine tW.mono (h _ _ _ _ _ _ _ E S hw) fun v H1 ⟨ro1, x, st1, e1, S1, r1, xs, hx, q⟩ => ?_
  have seq : seqP st1 x = some xs → ((∃ a xs, v = .ref a ∧ SqL X.K H1 a xs ∧ ∃ ro' p st', Ext ro H ro' H1 ∧ RepS X.K ro' fr H1 st' ∧ RepIt X.K ro' fr H1 (Itl X.K a) p ∧ R p st') ∨ (∃ a xs, v = .ref a ∧ SqT X.K H1 a xs ∧ ∃ ro' p st', Ext ro H ro' H1 ∧ RepS X.K ro' fr H1 st' ∧ RepIt X.K ro' fr H1 (Itt X.K a) p ∧ R p st') ∨
      ∃ x, v = .str x ∧ ∃ ro' p st', Ext ro H ro' H1 ∧ RepS X.K ro' fr H1 st' ∧ RepIt X.K ro' fr H1 (Its x) p ∧ R p st') := fun hx => by
    obtain ⟨a, hv, ⟨rfl, vs, sq, rs⟩ | ⟨hl, vs, sq, rs⟩⟩ := seqP_kind S1 r1 hx
    · exact .inr (.inl ⟨a, vs, hv, sq, ro1, _, st1, e1, S1, it_tup r1 hv, q⟩)
    · exact .inl ⟨a, vs, hv, sq, ro1, _, st1, e1, S1, it_lst r1 hv hl, q⟩
  cases x with
  | str z =>
    cases r1
    simp only [itP, Option.some.injEq] at hx
    subst hx
    exact .inr (.inr ⟨z, rfl, ro1, _, st1, e1, S1, it_str, q⟩)
  | _ => exact seq hx
def iRg1 (wa : WA) : WI := fun env st R => wa env st fun xs st1 => ∃ j : Int, xs = [.int j] ∧ (-(2 ^ 62) ≤ j ∧ j < 2 ^ 62) ∧ R ⟨rgP 0 j.toNat, fun _ => True⟩ st1
def iRg2 (wa : WA) : WI := fun env st R => wa env st fun xs st1 => ∃ i j : Int, xs = [.int i, .int j] ∧ (-(2 ^ 62) ≤ i ∧ i < 2 ^ 62 ∧ -(2 ^ 62) ≤ j ∧ j < 2 ^ 62) ∧ R ⟨rgP i (j - i).toNat, fun _ => True⟩ st1
theorem di_rng1 (hg : Gl X "range") (hm : X.mg "range" = none) (ha : DA X [a] wa) (hs : starEach [a] X.env = [(false, eval a X.env)] := by exact star_one (by rfl)) : DI X tg (.Call (.Name "range" p) [a] [] pos) (iRg1 wa) := by
  refine ⟨?_⟩
  intro ro fr σ H env st R E S hw
  refine toWI (pi_range1 hg hm (pa_W X _) hs) ?_
  refine tWA.mono (ha _ _ _ _ _ _ _ E S hw) fun vs H1 ⟨ro1, xs, st1, e1, S1, r1, j, hx, hj, q⟩ => ?_
  subst hx
  obtain ⟨v, rfl, r⟩ := one_rep r1
  cases r
  exact ⟨j, rfl, hj.1, hj.2, ro1, _, st1, e1, S1, it_rng, q⟩
theorem di_rng2 (hg : Gl X "range") (hm : X.mg "range" = none) (ha : DA X [a, b] wa) (hs : starEach [a, b] X.env = [(false, eval a X.env), (false, eval b X.env)] := by exact star_two (by rfl) (by rfl)) (hs2 : starEach [b] X.env = [(false, eval b X.env)] := by exact star_one (by rfl)) : DI X tg (.Call (.Name "range" p) [a, b] [] pos) (iRg2 wa) := by
  refine ⟨?_⟩
  intro ro fr σ H env st R E S hw
  refine toWI (pi_range2 hg hm (pa_W X _) hs hs2) ?_
  refine tWA.mono (ha _ _ _ _ _ _ _ E S hw) fun vs H1 ⟨ro1, xs, st1, e1, S1, r1, i, j, hx, hj, q⟩ => ?_
  subst hx
  obtain ⟨v, u, rfl, r, r'⟩ := two_rep r1
  cases r; cases r'
  exact ⟨i, j, rfl, hj, ro1, _, st1, e1, S1, it_rng, q⟩
def iEnP (wa : WA) : WI := fun env st R => wa env st fun xs st1 => ∃ x ys, xs = [x] ∧ seqP st1 x = some ys ∧ R ⟨enP ys, gdOf x ys⟩ st1
theorem di_enum {elts : List Expr} {kk : Nat} {tpos : Pos} (hg : Gl X "enumerate") (hm : X.mg "enumerate" = none) (ha : DA X [a] wa) (hs : starEach [a] X.env = [(false, eval a X.env)] := by exact star_one (by rfl)) : DI X (.Tuple elts kk tpos) (.Call (.Name "enumerate" p) [a] [] pos) (iEnP wa) := by
  refine ⟨?_⟩
  intro ro fr σ H env st R E S hw
  refine toWI (pi_enumA hg hm (pa_W X _) hs) ?_
  refine tWA.mono (ha _ _ _ _ _ _ _ E S hw) fun vs H1 ⟨ro1, xs, st1, e1, S1, r1, x, ys, hx, hy, q⟩ => ?_
  subst hx
  obtain ⟨v, rfl, r⟩ := one_rep r1
  obtain ⟨a, hv, ⟨rfl, vs, sq, rs⟩ | ⟨hl, vs, sq, rs⟩⟩ := seqP_kind S1 r hy
  · exact ⟨a, vs, by rw [hv], .inr ⟨sq, ro1, _, st1, e1, S1, it_enT r hv, q⟩⟩
  · exact ⟨a, vs, by rw [hv], .inl ⟨sq, ro1, _, st1, e1, S1, it_enL r hv hl, q⟩⟩
end

/-! ### methods -/
abbrev MtP := PV → List PV → Sto → (PV → Sto → Prop) → Prop
def mW (X : Cx) (id : String) : V → List V → Hp → VK → Prop := fun x xs H Q => ∀ pins s σ v us, Inv X pins σ H s → RelV x v → Vals xs us → wpAny (model X.prog X.w) X.A (call (.builtin id) (v :: us)) (EP X pins σ Q) X.xe s
theorem mt_W (X : Cx) (id : String) : MtR X id (mW X id) := fun pins s σ H x xs v us Q I r1 r2 h => h pins s σ v us I r1 r2
theorem toM {X : Cx} {id : String} {r : V → List V → Hp → VK → Prop} {x : V} {xs : List V} {H : Hp} {Q : VK} (p : MtR X id r) (h : r x xs H Q) : mW X id x xs H Q := fun pins s σ v us I r1 r2 => p pins s σ H x xs v us Q I r1 r2 h
theorem mW.mono {X : Cx} {id : String} {x : V} {xs : List V} {H : Hp} {Q Q' : VK} (h : mW X id x xs H Q) (hQ : ∀ v H, Q v H → Q' v H) : mW X id x xs H Q' := fun pins s σ v us I r1 r2 => thn (h pins s σ v us I r1 r2) fun _ _ => EP.mono hQ
structure DM (X : Cx) (id : String) (r : MtP) : Prop where
  run : ∀ ro fr H st x xs v vs Q, RepS X.K ro fr H st → RepV X.K ro fr H x v → RepVs X.K ro fr H xs vs → r x xs st Q → mW X id v vs H (Post X.K ro fr H Q)
instance {X : Cx} {id : String} {r : MtP} : CoeFun (DM X id r) (fun _ => ∀ ro fr H st x xs v vs Q, RepS X.K ro fr H st → RepV X.K ro fr H x v → RepVs X.K ro fr H xs vs → r x xs st Q → mW X id v vs H (Post X.K ro fr H Q)) := ⟨DM.run⟩
def tyM (st : Sto) : PV → Option String
  | .str _ => some "str"
  | .lst _ | .fls _ => some "list"
  | .dk _ _ => some "dict"
  | .ref n => match st[n]? with
    | some (.lst _) => some "list"
    | some (.dk _ _) => some "dict"
    | some (.dt _ _) => some "dict"
    | _ => none
  | _ => none
theorem tyM_at {K : PySem.W.Frag} {ro fr : List Addr} {H : Hp} {st : Sto} {x : PV} {v : V} {t : String} (S : RepS K ro fr H st) (r : RepV K ro fr H x v) (h : tyM st x = some t) : tyV K t v H := by
  cases r with
  | str s => cases h; rfl
  | lst h1 h2 => cases h; exact .inl ⟨rfl, _, SqL.of h1.1⟩
  | fls h1 h2 => cases h; exact .inl ⟨rfl, _, h1.sq⟩
  | dk h1 h2 h3 => cases h; exact .inr (.inr (.inl ⟨rfl, .inl ⟨_, h1.1⟩⟩))
  | @ref a n h1 =>
    simp only [tyM] at h
    split at h
    · rename_i xs hc
      cases h
      obtain ⟨vs, q1, q2⟩ := S.at_ n _ a hc h1
      exact .inl ⟨rfl, vs, SqL.of q1⟩
    · rename_i ks xs hc
      cases h
      obtain ⟨kvs, q1, q2, q3⟩ := S.at_ n _ a hc h1
      exact .inr (.inr (.inl ⟨rfl, .inl ⟨_, q1⟩⟩))
    · rename_i ks xs hc
      cases h
      obtain ⟨kvs, q1, q2, q3⟩ := S.at_ n _ a hc h1
      exact .inr (.inr (.inl ⟨rfl, .inr ⟨_, q1⟩⟩))
    · cases h
  | _ => cases h
def wM (T : String) (r : MtP) (wo : WE) (wa : WA) : WE := fun env st Q => wo env st fun x st1 => tyM st1 x = some T ∧ wa env st1 fun xs st2 => r x xs st2 Q
section
variable {X : Cx} {o e : Expr} {es : List Expr} {wo : WE} {wa : WA} {name : Str} {apos cpos : Pos} {T id : String} {r : MtP}
theorem d_m0 (pa : PlainAttrs T) (slot : Slot T name id) (hty : typeOf (.builtin id) = pure (.type "method_descriptor")) (hm : DM X id r) (ho : DE X o wo)
    (hbase : attributeBase o name X.env (eval o X.env) = eval o X.env := by exact base_no (by rfl)) (hline : (apos.endLine == cpos.line) = true := by rfl) : DE X (.Call (.Attribute o name apos) [] [] cpos) (wM T r wo wNil) := by
  refine ⟨?_⟩
  intro ro fr σ H env st Q E S h
  refine toW (pe_bm0 pa slot hty (mt_W X id) (pe_W X o) hbase hline) ?_
  refine tW.mono (ho _ _ _ _ _ _ _ E S h) fun v H1 ⟨ro1, x, st1, e1, S1, r1, ht, h1⟩ => ⟨tyM_at S1 r1 ht, ?_⟩
  exact mW.mono (hm _ _ _ _ _ _ _ _ _ S1 r1 .nil h1) fun _ _ h => h.ext e1
theorem d_m (pa : PlainAttrs T) (slot : Slot T name id) (hty : typeOf (.builtin id) = pure (.type "method_descriptor")) (hm : DM X id r) (ho : DE X o wo) (ha : DA X (e :: es) wa)
    (hbase : attributeBase o name X.env (eval o X.env) = eval o X.env := by exact base_no (by rfl))
    (hfew : ((backTo cpos (starEach (e :: es) X.env)).all (fun x => !x.1) && (backToKw cpos (keywordEach [] X.env)).all (fun x => x.1.isSome)
      && decide ((e :: es).length + ([] : List Keyword).length + (if ([] : List Keyword).isEmpty then 0 else 1) < 30)) = true := by exact star_few (by rfl) (by decide))
    (hline : (apos.endLine == cpos.line) = true := by rfl) (hs : starEach (e :: es) X.env = (false, eval e X.env) :: starEach es X.env := by exact star_cons (by rfl)) (hplain : (backTo cpos (starEach es X.env)).any (·.1) = false := by exact star_plain (by rfl)) :
    DE X (.Call (.Attribute o name apos) (e :: es) [] cpos) (wM T r wo wa) := by
  refine ⟨?_⟩
  intro ro fr σ H env st Q E S h
  refine toW (pe_bm pa slot hty (mt_W X id) (pe_W X o) (pa_W X _) hbase hfew hline hs hplain) ?_
  refine tW.mono (ho _ _ _ _ _ _ _ E S h) fun v H1 ⟨ro1, x, st1, e1, S1, r1, ht, h1⟩ => ⟨tyM_at S1 r1 ht, ?_⟩
  refine tWA.mono (ha _ _ _ _ _ _ _ (E.ext e1) S1 h1) fun vs H2 ⟨ro2, xs, st2, e2, S2, r2, h2⟩ => ?_
  exact mW.mono (hm _ _ _ _ _ _ _ _ _ S2 (r1.ext e2) r2 h2) fun _ _ h => h.ext (e1.trans e2)
end
/-- a cell is changed, and something told -/
theorem post_set {K : PySem.W.Frag} {ro fr : List Addr} {H : Hp} {st : Sto} {n : Nat} {a : Addr} {ob : HO} {c : Cell} {x : PV} {v : V} {Q : PV → Sto → Prop} (S : RepS K ro fr H st) (hn : ro[n]? = some a)
    (hc : Ext ro H ro (upd H a ob) → RepC K ro fr (upd H a ob) c a) (r : Ext ro H ro (upd H a ob) → RepV K ro fr (upd H a ob) x v) (q : Q x (st.set n c)) : Post K ro fr H Q v (upd H a ob) :=
  have e : Ext ro H ro (upd H a ob) := ext_set (List.mem_of_getElem? hn)
  ⟨ro, x, _, e, S.set hn (hc e), r e, q⟩
def appendR : MtP := fun x xs st Q => ∃ n ys y, x = .ref n ∧ xs = [y] ∧ st[n]? = some (.lst ys) ∧ ys.length < sizeLine ∧ Q .non (st.set n (.lst (ys ++ [y])))
def extendR : MtP := fun x xs st Q => ∃ n ys y zs, x = .ref n ∧ xs = [y] ∧ st[n]? = some (.lst ys) ∧ lstS st y = some zs ∧ ys.length + zs.length ≤ sizeLine ∧ Q .non (st.set n (.lst (ys ++ zs)))
def popR : MtP := fun x xs st Q => ∃ n ys y, x = .ref n ∧ xs = [] ∧ st[n]? = some (.lst ys) ∧ ys[ys.length - 1]? = some y ∧ Q y (st.set n (.lst ys.dropLast))
section
variable {X : Cx}
theorem dm_append : DM X "list.append" appendR := by
  refine ⟨?_⟩
  rintro ro fr H st x xs v vs Q S r rs ⟨n, ys, y, rfl, rfl, hn, hz, q⟩
  cases r with
  | @ref a _ h1 =>
    obtain ⟨us, hu, ru⟩ := S.at_ n _ a hn h1
    obtain ⟨u, rfl, r1⟩ := one_rep rs
    exact toM mt_append ⟨a, us, u, rfl, rfl, hu, by rw [← ru.length]; exact hz, post_set (c := .lst (ys ++ [y])) S h1 (fun e => ⟨_, upd_same, (ru.append (.cons r1 .nil)).ext e⟩) (fun _ => .non) q⟩
theorem dm_extend : DM X "list.extend" extendR := by
  refine ⟨?_⟩
  rintro ro fr H st x xs v vs Q S r rs ⟨n, ys, y, zs, rfl, rfl, hn, hy, hz, q⟩
  cases r with
  | @ref a _ h1 =>
    obtain ⟨us, hu, ru⟩ := S.at_ n _ a hn h1
    obtain ⟨u, rfl, r1⟩ := one_rep rs
    obtain ⟨b, ws, rfl, hb, rb⟩ := lstS_at S r1 hy
    exact toM mt_extend ⟨a, b, us, ws, rfl, rfl, hu, hb, by rw [← ru.length, ← rb.length]; exact hz, post_set (c := .lst (ys ++ zs)) S h1 (fun e => ⟨_, upd_same, (ru.append rb).ext e⟩) (fun _ => .non) q⟩
theorem dm_pop : DM X "list.pop" popR := by
  refine ⟨?_⟩
  rintro ro fr H st x xs v vs Q S r rs ⟨n, ys, y, rfl, rfl, hn, hy, q⟩
  cases r with
  | @ref a _ h1 =>
    cases rs
    obtain ⟨us, hu, ru⟩ := S.at_ n _ a hn h1
    obtain ⟨u, hu2, r2⟩ := ru.get hy
    exact toM mt_pop ⟨a, us, u, rfl, rfl, hu, by rw [← ru.length]; exact hu2, post_set (c := .lst ys.dropLast) S h1 (fun e => ⟨_, upd_same, ru.dropLast.ext e⟩) (fun e => r2.ext e) q⟩
def joinR : MtP := fun x xs st Q => ∃ a y ys, x = .str a ∧ xs = [y] ∧ seqP st y = some (pStrs ys) ∧ (ys.map (·.length)).sum + ys.length * a.length ≤ 16777216 ∧ Q (.str (Txt.join a ys)) st
theorem dm_join : DM X "str.join" joinR := by
  refine ⟨?_⟩
  rintro ro fr H st x xs v vs Q S r rs ⟨a, y, ys, rfl, rfl, hy, hz, q⟩
  cases r
  obtain ⟨u, rfl, r1⟩ := one_rep rs
  obtain ⟨b, us, rfl, hs, rb⟩ := seqP_at S r1 hy
  rw [reps_strs rb] at hs
  exact toM mt_join ⟨a, b, ys, rfl, rfl, hs, hz, ro, _, st, .refl, S, .str _, q⟩
def upperR : MtP := fun x xs st Q => ∃ a, x = .str a ∧ xs = [] ∧ a.length ≤ 5592405 ∧ Q (.str (Txt.upper a)) st
theorem dm_upper : DM X "str.upper" upperR := by
  refine ⟨?_⟩
  rintro ro fr H st x xs v vs Q S r rs ⟨a, rfl, rfl, hz, q⟩
  cases r; cases rs
  exact toM mt_upper ⟨a, rfl, rfl, hz, ro, _, st, .refl, S, .str _, q⟩
end

/-! ### xs[i] = v -/
def sW (X : Cx) : TSet := fun o i v H Q => ∀ pins s σ ov iv u, Inv X pins σ H s → RelV o ov → RelV i iv → RelV v u → wpAny (model X.prog X.w) X.A (setItem ov iv u) (fun _ s' => ∃ H', Inv X pins σ H' s' ∧ Q H') X.xe s
theorem set_W (X : Cx) : PSet X (sW X) := fun pins s σ H o i v ov iv u Q I r1 r2 r3 h => h pins s σ ov iv u I r1 r2 r3
theorem toSet {X : Cx} {t : TSet} {o i v : V} {H : Hp} {Q : Hp → Prop} (p : PSet X t) (h : t o i v H Q) : sW X o i v H Q := fun pins s σ ov iv u I r1 r2 r3 => p pins s σ H o i v ov iv u Q I r1 r2 r3 h
def gIx (wo wi : WE) : WG := fun v env st Q => wo env st fun x st1 => wi env st1 fun y st2 => ∃ n k ys j, x = .ref n ∧ y = .int k ∧ st2[n]? = some (.lst ys) ∧ ixN ys.length k = some j ∧ Q env (st2.set n (.lst (ys.set j v)))
section
variable {X : Cx} {o i : Expr} {wo wi : WE} {pos : Pos}
theorem dg_ix (ho : DE X o wo) (hi : DE X i wi) (ha : ∀ v, assign (.Subscript o i pos) X.env v = (do
      let ov ← holding [v] (eval o X.env)
      let iv ← holding [v, ov] (eval i X.env)
      standAt pos
      holding [v, ov, iv] (setItem ov iv v)
      release [v, ov, iv] []) := by exact asub_no (by rfl)) : DG X (.Subscript o i pos) [] (gIx wo wi) := by
  refine ⟨?_⟩
  intro ro fr σ H env st x v Q E S r hw
  refine toWG (pg_sub (pe_W X o) (pe_W X i) (set_W X) ha) ?_
  refine tW.mono (ho _ _ _ _ _ _ _ E S hw) fun v1 H1 ⟨ro1, x1, st1, e1, S1, r1, h1⟩ => ?_
  refine tW.mono (hi _ _ _ _ _ _ _ (E.ext e1) S1 h1) fun v2 H2 ⟨ro2, y, st2, e2, S2, r2, n, k, ys, j, hx, hy, hn, hj, q⟩ => ?_
  subst hx; subst hy
  have r1' := r1.ext e2
  cases r2
  cases r1' with
  | @ref a _ ha =>
    obtain ⟨us, hu, ru⟩ := S2.at_ n _ a hn ha
    refine toSet set_list ⟨a, us, k, j, rfl, rfl, hu, by rw [← ru.length]; exact hj, ⟨rfl, fun _ _ => rfl⟩, ?_⟩
    have e3 : Ext ro2 H2 ro2 (upd H2 a (.lst (us.set j v))) := ext_set (List.mem_of_getElem? ha)
    have ee := (e1.trans e2).trans e3
    exact ⟨ro2, env, _, ee, S2.set (c := .lst (ys.set j x)) ha ⟨_, upd_same, (ru.set j ((r.ext e1).ext e2)).ext e3⟩, E.ext ee, q⟩
end
end Pv

/-! Pv8: equality of anything, repr, star targets, list(zip(..)), dicts. -/
namespace Pv
open PySem PySem.Spec L2

/-! ### equality: texts of any kind, and data -/
def eqA : OpP := fun x y st Q => match x, y with
  | .str a, .str b => Q (.bl (a == b)) st
  | x, y => eqR x y st Q
def neA : OpP := fun x y st Q => match x, y with
  | .str a, .str b => Q (.bl (a != b)) st
  | x, y => neR x y st Q
section
variable {X : Cx}
theorem op_eqS : OpR X (compareOp .Eq) (fun x y H Q => ∃ a b, x = .str a ∧ y = .str b ∧ Q (.bl (a == b)) H) := by
  intro pins s σ H x y v u Q I rx ry ⟨a, b, ex, ey, q⟩
  subst ex; subst ey
  obtain ⟨t, rfl⟩ := rx
  obtain ⟨t', rfl⟩ := ry
  exact PyProof.Rows.eq_str ⟨.bl _, H, I, rfl, q⟩
theorem op_neS : OpR X (compareOp .NotEq) (fun x y H Q => ∃ a b, x = .str a ∧ y = .str b ∧ Q (.bl (a != b)) H) := by
  intro pins s σ H x y v u Q I rx ry ⟨a, b, ex, ey, q⟩
  subst ex; subst ey
  obtain ⟨t, rfl⟩ := rx
  obtain ⟨t', rfl⟩ := ry
  exact PyProof.Rows.ne_str ⟨.bl _, H, I, rfl, q⟩
theorem dop_eqA {k : Nat} (G : XG k X) : DOp X (compareOp .Eq) eqA := by
  refine ⟨?_⟩
  intro ro fr H st x y v u Q S rx ry h
  unfold eqA at h
  split at h
  · cases rx; cases ry
    exact toRW op_eqS ⟨_, _, rfl, rfl, ro, _, st, .refl, S, .bl _, h⟩
  · exact dop_eq G _ _ _ _ _ _ _ _ _ S rx ry h
theorem dop_neA {k : Nat} (G : XG k X) : DOp X (compareOp .NotEq) neA := by
  refine ⟨?_⟩
  intro ro fr H st x y v u Q S rx ry h
  unfold neA at h
  split at h
  · cases rx; cases ry
    exact toRW op_neS ⟨_, _, rfl, rfl, ro, _, st, .refl, S, .bl _, h⟩
  · exact dop_ne G _ _ _ _ _ _ _ _ _ S rx ry h

/-! ### repr -/
theorem call_reprD (hu : X.A.units + 66 < cLine) (hg : X.A.guards = some []) : CallR X (.builtin "repr") (fun xs H Q => ∃ v d, xs = [v] ∧ Dp X.K H v d ∧ d.showable = true ∧ d.hasDict = false ∧ d.depth ≤ 64 ∧ d.shown.length ≤ sizeLine ∧ Q (.str d.shown) H) := by
  intro pins s σ H xs us Q I r h
  obtain ⟨v, d, rfl, hd, sh, nd, dp, hl, q⟩ := h
  obtain ⟨u, rfl, ru⟩ := vals1 r
  obtain ⟨as, rd⟩ := Dp.reads I d v u hd ru
  have fin : ∀ h' t tk, (∀ b o, s.heap.get? b = some o → h'.get? b = some o) → EP X pins σ Q (.str d.shown t) { s with heap := h', toks := tk } := fun h' t tk hk => ⟨.str _, H, I.kept hk, ⟨_, rfl⟩, q⟩
  have fin0 : ∀ t tk, EP X pins σ Q (.str d.shown t) { s with toks := tk } := fun t tk => fin s.heap t tk fun _ _ e => e
  cases rd with
  | none => exact PySem.P.repr_of_none (fin0 _ _)
  | bool b => exact PySem.P.repr_of_bool (fin0 _ _)
  | int i t => exact PySem.P.repr_of_int (by simpa [PyData.showable] using sh) (fin0 _ _)
  | str x t => exact PySem.P.repr_of_str (fin0 _ _) hl
  | list h1 h2 h3 h4 => exact repr_of_reads' (.list h1 h2 h3 h4) sh (fun z => by rw [nd] at z; cases z) hg (by omega) (fun _ _ e => e) fin hl
  | tuple h1 h2 h3 h4 => exact repr_of_reads' (.tuple h1 h2 h3 h4) sh (fun z => by rw [nd] at z; cases z) hg (by omega) (fun _ _ e => e) fin hl
  | dict h1 h2 h3 h4 h5 => simp [PyData.hasDict] at nd
def reprR : CaP := fun xs st Q => ∃ x d, xs = [x] ∧ datS st x = some d ∧ d.showable = true ∧ d.depth ≤ 64 ∧ d.shown.length ≤ sizeLine ∧ Q (.str d.shown) st
mutual
theorem noDict_dat : ∀ x : PV, isD x = true → (dat x).hasDict = false
  | .non, _ => rfl
  | .bl _, _ => rfl
  | .int _, _ => rfl
  | .str _, _ => rfl
  | .tup xs, h => by simp only [dat, PyData.hasDict]; exact noDict_dats xs (by simpa only [isD] using h)
  | .lst xs, h => by simp only [dat, PyData.hasDict]; exact noDict_dats xs (by simpa only [isD] using h)
  | .fls xs, h => by simp only [dat, PyData.hasDict]; exact noDict_dats xs (by simpa only [isD] using h)
  | .dk _ _, h => by simp only [isD] at h; cases h
  | .ref _, h => by simp only [isD] at h; cases h
theorem noDict_dats : ∀ xs : List PV, isDs xs = true → PyData.hasDictAll (dats xs) = false
  | [], _ => rfl
  | x :: xs, h => by
    simp only [isDs, Bool.and_eq_true] at h
    simp only [dats, PyData.hasDictAll, noDict_dat x h.1, noDict_dats xs h.2, Bool.or_self]
end
theorem datS_noDict {st : Sto} {x : PV} {d : PyData} (h : datS st x = some d) : d.hasDict = false := by
  have key : ∀ x, (if isD x = true then some (dat x) else none) = some d → d.hasDict = false := fun x h => by
    split at h
    · cases h; exact noDict_dat x (by assumption)
    · cases h
  cases x with
  | ref n =>
    simp only [datS] at h
    split at h
    · split at h
      · cases h; simp only [PyData.hasDict]; exact noDict_dats _ (by assumption)
      · cases h
    · cases h
  | non => exact key .non h
  | bl b => exact key (.bl b) h
  | int b => exact key (.int b) h
  | str b => exact key (.str b) h
  | tup b => exact key (.tup b) h
  | lst b => exact key (.lst b) h
  | fls b => exact key (.fls b) h
  | dk b c => exact key (.dk b c) h
theorem dca_repr {k : Nat} (G : XG k X) : DCa X (.builtin "repr") reprR := by
  refine ⟨?_⟩
  rintro ro fr H st xs vs Q S r ⟨x, d, rfl, hd, sh, dp, hl, q⟩
  obtain ⟨v, rfl, r1⟩ := one_rep r
  exact toC (call_reprD (by have := G.room.un; omega) G.gd) ⟨v, d, rfl, datS_at S r1 hd, sh, datS_noDict hd, dp, hl, ro, _, st, .refl, S, .str _, q⟩
end

/-! ### a, *b, c = a tuple -/
section
variable {X : Cx} {es es' : List Expr} {k : Nat} {pos : Pos} {t : TGs} {n i : Nat}
theorem pg_star (hc : X.calm = true) (h : PGs X es' t) (hi : i < n) (hn : (assignEach es X.env).length = n) (hst : (assignEach es X.env).findIdx? (·.1) = some i) (hm : (assignEach es X.env).map (·.2) = (assignEach es' X.env).map (·.2)) :
    PG X (.Tuple es k pos) (fun v σ H Q => ∃ a xs, v = .ref a ∧ SqT X.K H a xs ∧ n ≤ xs.length + 1 ∧ ∀ D, H D = none →
      t (xs.take i ++ [.ref D] ++ (xs.drop i).drop (xs.length + 1 - n)) σ (upd H D (.lst ((xs.drop i).take (xs.length + 1 - n)))) Q) := by
  refine ⟨fun pins s σ H v u Q I r hw => ?_⟩
  obtain ⟨l, xs, e1, hq, hle, hw⟩ := hw
  subst e1
  cases r
  obtain ⟨its, rv, ht, hz⟩ := I.tuple hq
  have hlen := rv.length
  rw [PyProof.Rows.assign_Tuple]
  refine wpAny_bind (wpAny_standAt ?_)
  unfold unpack
  rw [hn, hst, hm]
  refine wpAny_bind (wpAny_holding ?_)
  have hl : PyProof.Rows.IsTup s.heap l its.toArray := ht
  have hlt : l ≠ s.heap.objs.size := by obtain ⟨o, ho, _⟩ := hl; exact Nat.ne_of_lt (Heap.lt_size ho)
  have hsz : its.toArray.size = xs.length := by simp [hlen]
  unfold unpackItems
  refine wpAny_bind ?_
  unfold notIterableAtAll
  refine wpAny_bind (wpAny_specialOf hl.typeIs PyProof.Rows.slot_tuple_iter.lookup ?_)
  refine wpAny_pure ?_
  simp only [Bool.false_eq_true, if_false]
  refine wpAny_bind (wpAny_holding (PyProof.Rows.iter_tuple hl ?_))
  refine wpAny_bind (wpAny_holding (PyProof.Rows.draw_tuple hlt i 0 _ _ ⟨_, Heap.get?_push_size _ rfl, rfl, rfl⟩ (hl.push _) (by omega) fun h₁ hit₁ hs₁ => ?_))
  have hl₁ : PyProof.Rows.IsTup h₁ l its.toArray := (hl.push _).extBut hs₁.extBut hlt
  rw [Nat.zero_add] at hit₁
  have hit₁' := hit₁
  obtain ⟨oi, hoi, _⟩ := hit₁'
  have hl₁' := hl₁
  obtain ⟨ol, hol, _⟩ := hl₁'
  rw [List.drop_zero]
  have hfl : (its.toArray.toList.take i).length = i := by rw [List.length_take, Array.length_toList]; omega
  rw [if_neg (show ¬ ((its.toArray.toList.take i).length < i) by rw [hfl]; omega)]
  refine wpAny_bind (wpAny_holding (PySem.W.kun_collect (s := { s with heap := h₁ }) (T := "tuple_iterator") (.inr (.inr (.inr rfl))) (Walks.tuple (A := X.A.in1) (I.ok.hd hc) s.heap.objs.size l hlt its.toArray) (fun j u st => st.1.typeIs) (k := i) (by omega) ⟨hit₁, hl₁⟩ (Heap.lt_size hoi) (Heap.lt_size hol) (fun h₂ tk hk => ?_) (by omega)))
  have hrl : (its.toArray.toList.drop i).length = its.toArray.size - i := by rw [List.length_drop, Array.length_toList]
  have hmid : (its.toArray.toList.drop i).length - (n - 1 - i) = xs.length + 1 - n := by rw [hrl]; omega
  show wpAny _ _ (if (its.toArray.toList.drop i).length < n - 1 - i then _ else _) _ _ _
  rw [if_neg (by rw [hrl]; omega)]
  show wpAny _ _ (newList ((its.toArray.toList.drop i).take ((its.toArray.toList.drop i).length - (n - 1 - i))) >>= fun d => pure (its.toArray.toList.take i ++ [d] ++ (its.toArray.toList.drop i).drop ((its.toArray.toList.drop i).length - (n - 1 - i)))) _ _ _
  rw [hmid]
  have he : Heap.ExtBut s.heap.objs.size s.heap h₂ := fun b o hb e => hk b o hb (hs₁.extBut b o hb (Heap.get?_push_of_some _ e))
  have I2 : Inv X pins σ H { s with heap := h₂, toks := tk } := I.kept fun b o e => he b o (Nat.ne_of_lt (Heap.lt_size e)) e
  simp only [List.toList_toArray]
  have rmid : Vals ((xs.drop i).take (xs.length + 1 - n)) ((its.drop i).take (xs.length + 1 - n)) := (rv.drop i).take _
  have zmid : ((xs.drop i).take (xs.length + 1 - n)).length ≤ sizeLine := by rw [List.length_take, List.length_drop]; omega
  refine wpAny_bind (wpAny_newList ?_ (by rw [← rmid.length]; exact zmid))
  have I3 := I2.lnew (t' := tk) rmid zmid
  refine wpAny_pure ?_
  exact h.run pins _ σ _ _ _ Q I3 (((rv.take i).append (.cons (show RelV (V.ref _) (Value.ref _) from rfl) .nil)).append ((rv.drop i).drop _)) (hw _ I2.fresh)
/-! ### a, *b, c = a text -/
theorem walks_shift {prog : Program} {w : World} {A : Around} {I : Addr} {fp wr : List Addr} {n k : Nat} {P : Nat → Value → Prop} {St : Nat → Heap → Prop} (W : Walks prog w A I fp wr n P St) (hk : k ≤ n) : Walks prog w A I fp wr (n - k) (fun i => P (k + i)) (fun i => St (k + i)) where
  sub := W.sub
  frame := fun i h h' st hh => W.frame (k + i) h h' st hh
  item := fun i s Q E hi st hQ => W.item (k + i) s Q E (by omega) st hQ
  done := fun s Q E st hQ => W.done s Q E (by rw [show n = k + (n - k) by omega]; exact st) hQ
  self := fun i s Q E st hQ => W.self (k + i) s Q E st hQ
theorem draw_walks {prog : Program} {w : World} {A : Around} {E : Value → Shared → Prop} {I : Addr} {n : Nat} {P : Nat → Value → Prop} {St : Nat → Heap → Prop} (W : Walks prog w A.in1 I [I] [I] n P St) :
    ∀ (k i : Nat) (s : Shared) (Q : List Value → Shared → Prop), St i s.heap → i + k ≤ n →
      (∀ vs h' tk, vs.length = k → (∀ j v, vs[j]? = some v → P (i + j) v) → St (i + k) h' → (∀ b o, b ≠ I → s.heap.get? b = some o → h'.get? b = some o) → Q vs { s with heap := h', toks := tk }) → wpAny (model prog w) A (draw (.ref I) k) Q E s
  | 0, i, s, Q, st, hk, hQ => by
    have := hQ [] s.heap s.toks rfl (fun j v h => by simp at h) st fun _ _ _ e => e
    exact wpAny_pure this
  | k + 1, i, s, Q, st, hk, hQ => by
    unfold draw
    refine wpAny_bind (wpAny_of_in1 (W.item i s _ _ (by omega) st fun v h' tk pv st' fr => ?_))
    refine wpAny_bind (wpAny_holding ?_)
    refine draw_walks W k (i + 1) { s with heap := h', toks := tk } _ st' (by omega) fun vs h2 tk2 hl hp st2 fr2 => ?_
    refine wpAny_pure (hQ (v :: vs) h2 tk2 (by simp [hl]) (fun j u hj => ?_) (by rw [show i + (k + 1) = i + 1 + k by omega]; exact st2) fun b o hb e => fr2 b o hb (fr b o (by simpa using hb) e))
    cases j with
    | zero => simp at hj; subst hj; exact pv
    | succ j => rw [show i + (j + 1) = i + 1 + j by omega]; exact hp j u (by simpa using hj)
theorem vals_by : ∀ {xs : List V} {us : List Value}, xs.length = us.length → (∀ (i : Nat) x u, xs[i]? = some x → us[i]? = some u → RelV x u) → Vals xs us
  | [], [], _, _ => .nil
  | [], _ :: _, h, _ => by simp at h
  | _ :: _, [], h, _ => by simp at h
  | x :: xs, u :: us, h, g => .cons (g 0 x u (by simp) (by simp)) (vals_by (by simpa using h) fun i y v e1 e2 => g (i + 1) y v (by simpa using e1) (by simpa using e2))
def signsV (z : Str) : List V := z.cps.toList.map fun c => .str ⟨#[c]⟩
theorem signs_vals {z : Str} {vs : List Value} (hl : vs.length = z.cps.size) (h : ∀ j v, vs[j]? = some v → SignAt z j v) : Vals (signsV z) vs := by
  refine vals_by (by simp [signsV, hl]) fun i x u e1 e2 => ?_
  obtain ⟨c, t, hc, rfl⟩ := h i u e2
  simp only [signsV, List.getElem?_map, Option.map_eq_some_iff] at e1
  obtain ⟨c', e3, rfl⟩ := e1
  rw [Array.getElem?_toList] at e3
  rw [hc] at e3
  cases e3
  exact ⟨t, rfl⟩
theorem pg_starS (hc : X.calm = true) (h : PGs X es' t) (hi : i < n) (hn : (assignEach es X.env).length = n) (hst : (assignEach es X.env).findIdx? (·.1) = some i) (hm : (assignEach es X.env).map (·.2) = (assignEach es' X.env).map (·.2)) :
    PG X (.Tuple es k pos) (fun v σ H Q => ∃ z, v = .str z ∧ z.length ≤ sizeLine ∧ n ≤ z.length + 1 ∧ ∀ D, H D = none →
      t ((signsV z).take i ++ [.ref D] ++ ((signsV z).drop i).drop ((signsV z).length + 1 - n)) σ (upd H D (.lst (((signsV z).drop i).take ((signsV z).length + 1 - n)))) Q) := by
  refine ⟨fun pins s σ H v u Q I r hw => ?_⟩
  obtain ⟨z, e1, hz, hle, hw⟩ := hw
  subst e1
  obtain ⟨tk0, rfl⟩ := r
  rw [PyProof.Rows.assign_Tuple]
  refine wpAny_bind (wpAny_standAt ?_)
  unfold unpack
  rw [hn, hst, hm]
  refine wpAny_bind (wpAny_holding ?_)
  unfold unpackItems
  refine wpAny_bind ?_
  unfold notIterableAtAll
  refine wpAny_bind (wpAny_specialOf (typeIs_str s z tk0) PySem.F.slot_str_iter.lookup ?_)
  refine wpAny_pure ?_
  simp only [Bool.false_eq_true, if_false]
  refine wpAny_bind (wpAny_holding ?_)
  have hh := I.ok.hd hc
  cases ha : z.cps.all (· < 128)
  · refine wpAny_pyIter_wide ha ?_
    have st0 : (s.heap.push { cls := .type "str_iterator", data := .fields #[.str z tk0, .int 0 0] }).IsStrIter s.heap.objs.size "str_iterator" z tk0 0 := ⟨_, Heap.get?_push_size _ rfl, rfl, rfl⟩
    have Wk := Walks.strWide (prog := X.prog) (w := X.w) (A := X.A.in1) hh s.heap.objs.size z tk0
    have hzl : z.cps.size = z.length := rfl
    refine wpAny_bind (wpAny_holding (draw_walks Wk i 0 _ _ st0 (by omega) fun vs h1 tk1 hvl hvp st1 fr1 => ?_))
    rw [if_neg (show ¬ (vs.length < i) by omega)]
    rw [Nat.zero_add] at st1
    refine wpAny_bind (wpAny_holding (wpAny_collect_iter (T := "str_iterator") (.inr (.inl rfl)) (walks_shift (k := i) Wk (by omega)).toS (fun j u st => let ⟨o, ho, hc, _⟩ := st; ⟨o, ho, hc⟩) st1 (fun b hb => ?_) (List.mem_cons_self ..) (fun s' acc hmv hacc => ?_) (by omega)))
    · rw [List.mem_singleton.mp hb]
      obtain ⟨o, ho, _⟩ := st1
      exact Heap.lt_size ho
    obtain ⟨h2, g2, d2, t2, o2⟩ := s'
    obtain ⟨m1, m2, m3, m4, m5⟩ := hmv
    have m2 : g2 = s.gens := m2
    have m3 : d2 = s.drawn := m3
    have m4 : o2 = s.os := m4
    subst m2; subst m3; subst m4
    have hal : acc.toList.length = z.length - i := by rw [Array.length_toList, hacc.1]; omega
    have hvals : Vals (signsV z) (vs ++ acc.toList) := signs_vals (by rw [List.length_append]; omega) fun j v hj => by
      by_cases hji : j < i
      · rw [List.getElem?_append_left (by omega)] at hj
        have := hvp j v hj
        rwa [Nat.zero_add] at this
      · rw [List.getElem?_append_right (by omega), Array.getElem?_toList] at hj
        have this : SignAt z (i + (j - vs.length)) v := hacc.2 (j - vs.length) v hj
        rwa [show i + (j - vs.length) = j by omega] at this
    have hsl : (signsV z).length = z.length := by simp [signsV, Str.length]
    show wpAny _ _ (if acc.toList.length < n - 1 - i then _ else _) _ _ _
    rw [if_neg (by omega)]
    show wpAny _ _ (newList (acc.toList.take (acc.toList.length - (n - 1 - i))) >>= fun d => pure (vs ++ [d] ++ acc.toList.drop (acc.toList.length - (n - 1 - i)))) _ _ _
    have hmid : acc.toList.length - (n - 1 - i) = (signsV z).length + 1 - n := by omega
    rw [hmid]
    have he : ∀ b o, s.heap.get? b = some o → h2.get? b = some o := fun b o e => by
      have hb : b ≠ s.heap.objs.size := Nat.ne_of_lt (Heap.lt_size e)
      exact m1 b o (fun h => hb (List.mem_singleton.mp h)) (fr1 b o hb (Heap.get?_push_of_some _ e))
    have I2 : Inv X pins σ H { s with heap := h2, toks := t2 } := I.kept he
    have e1 : (vs ++ acc.toList).take i = vs := by rw [List.take_append_of_le_length (by omega), List.take_of_length_le (by omega)]
    have e2 : (vs ++ acc.toList).drop i = acc.toList := by rw [List.drop_append_of_le_length (by omega), List.drop_of_length_le (by omega), List.nil_append]
    have r1 : Vals ((signsV z).take i) vs := by have := hvals.take i; rwa [e1] at this
    have r2 : Vals ((signsV z).drop i) acc.toList := by have := hvals.drop i; rwa [e2] at this
    have rmid := r2.take ((signsV z).length + 1 - n)
    have zmid : (((signsV z).drop i).take ((signsV z).length + 1 - n)).length ≤ sizeLine := by rw [List.length_take, List.length_drop]; omega
    refine wpAny_bind (wpAny_newList ?_ (by rw [← rmid.length]; exact zmid))
    have I3 := I2.lnew (t' := t2) rmid zmid
    refine wpAny_pure ?_
    exact h.run pins _ σ _ _ _ Q I3 ((r1.append (.cons (show RelV (V.ref _) (Value.ref _) from rfl) .nil)).append (r2.drop _)) (hw _ I2.fresh)
  · refine wpAny_pyIter_ascii ha ?_
    have st0 : (s.heap.push { cls := .type "str_ascii_iterator", data := .fields #[.str z tk0, .int 0 0] }).IsStrIter s.heap.objs.size "str_ascii_iterator" z tk0 0 := ⟨_, Heap.get?_push_size _ rfl, rfl, rfl⟩
    have Wk := Walks.strAscii (prog := X.prog) (w := X.w) (A := X.A.in1) hh s.heap.objs.size z tk0
    have hzl : z.cps.size = z.length := rfl
    refine wpAny_bind (wpAny_holding (draw_walks Wk i 0 _ _ st0 (by omega) fun vs h1 tk1 hvl hvp st1 fr1 => ?_))
    rw [if_neg (show ¬ (vs.length < i) by omega)]
    rw [Nat.zero_add] at st1
    refine wpAny_bind (wpAny_holding (wpAny_collect_iter (T := "str_ascii_iterator") (.inl rfl) (walks_shift (k := i) Wk (by omega)).toS (fun j u st => let ⟨o, ho, hc, _⟩ := st; ⟨o, ho, hc⟩) st1 (fun b hb => ?_) (List.mem_cons_self ..) (fun s' acc hmv hacc => ?_) (by omega)))
    · rw [List.mem_singleton.mp hb]
      obtain ⟨o, ho, _⟩ := st1
      exact Heap.lt_size ho
    obtain ⟨h2, g2, d2, t2, o2⟩ := s'
    obtain ⟨m1, m2, m3, m4, m5⟩ := hmv
    have m2 : g2 = s.gens := m2
    have m3 : d2 = s.drawn := m3
    have m4 : o2 = s.os := m4
    subst m2; subst m3; subst m4
    have hal : acc.toList.length = z.length - i := by rw [Array.length_toList, hacc.1]; omega
    have hvals : Vals (signsV z) (vs ++ acc.toList) := signs_vals (by rw [List.length_append]; omega) fun j v hj => by
      by_cases hji : j < i
      · rw [List.getElem?_append_left (by omega)] at hj
        have := hvp j v hj
        rwa [Nat.zero_add] at this
      · rw [List.getElem?_append_right (by omega), Array.getElem?_toList] at hj
        have this : SignAt z (i + (j - vs.length)) v := hacc.2 (j - vs.length) v hj
        rwa [show i + (j - vs.length) = j by omega] at this
    have hsl : (signsV z).length = z.length := by simp [signsV, Str.length]
    show wpAny _ _ (if acc.toList.length < n - 1 - i then _ else _) _ _ _
    rw [if_neg (by omega)]
    show wpAny _ _ (newList (acc.toList.take (acc.toList.length - (n - 1 - i))) >>= fun d => pure (vs ++ [d] ++ acc.toList.drop (acc.toList.length - (n - 1 - i)))) _ _ _
    have hmid : acc.toList.length - (n - 1 - i) = (signsV z).length + 1 - n := by omega
    rw [hmid]
    have he : ∀ b o, s.heap.get? b = some o → h2.get? b = some o := fun b o e => by
      have hb : b ≠ s.heap.objs.size := Nat.ne_of_lt (Heap.lt_size e)
      exact m1 b o (fun h => hb (List.mem_singleton.mp h)) (fr1 b o hb (Heap.get?_push_of_some _ e))
    have I2 : Inv X pins σ H { s with heap := h2, toks := t2 } := I.kept he
    have e1 : (vs ++ acc.toList).take i = vs := by rw [List.take_append_of_le_length (by omega), List.take_of_length_le (by omega)]
    have e2 : (vs ++ acc.toList).drop i = acc.toList := by rw [List.drop_append_of_le_length (by omega), List.drop_of_length_le (by omega), List.nil_append]
    have r1 : Vals ((signsV z).take i) vs := by have := hvals.take i; rwa [e1] at this
    have r2 : Vals ((signsV z).drop i) acc.toList := by have := hvals.drop i; rwa [e2] at this
    have rmid := r2.take ((signsV z).length + 1 - n)
    have zmid : (((signsV z).drop i).take ((signsV z).length + 1 - n)).length ≤ sizeLine := by rw [List.length_take, List.length_drop]; omega
    refine wpAny_bind (wpAny_newList ?_ (by rw [← rmid.length]; exact zmid))
    have I3 := I2.lnew (t' := t2) rmid zmid
    refine wpAny_pure ?_
    exact h.run pins _ σ _ _ _ Q I3 ((r1.append (.cons (show RelV (V.ref _) (Value.ref _) from rfl) .nil)).append (r2.drop _)) (hw _ I2.fresh)
def signsP (z : Str) : List PV := z.cps.toList.map fun c => .str ⟨#[c]⟩
/-- what is taken apart -/
def unpS : PV → Option (List PV)
  | .tup xs => some xs
  | .str z => some (signsP z)
  | _ => none
theorem reps_signs {K : PySem.W.Frag} {ro fr : List Addr} {H : Hp} (z : Str) : RepVs K ro fr H (signsP z) (signsV z) := by
  unfold signsP signsV
  generalize z.cps.toList = l
  induction l with
  | nil => exact .nil
  | cons c l ih => exact .cons (.str _) ih
def gStar (m : Bool) (n i : Nat) (gs : List PV → Envp → Sto → (Envp → Sto → Prop) → Prop) : WG := fun x env st Q => ∃ xs, unpS x = some xs ∧ xs.length ≤ sizeLine ∧ n ≤ xs.length + 1 ∧
  newL m ((xs.drop i).take (xs.length + 1 - n)) st fun y st1 => gs (xs.take i ++ [y] ++ (xs.drop i).drop (xs.length + 1 - n)) env st1 Q
theorem dg_star (m : Bool) {sl : List Nat} {gs} (es' : List Expr) (n i : Nat) (hc : X.calm = true) (h : DGs X es' sl gs) (hi : i < n := by decide) (hn : (assignEach es X.env).length = n := by exact asg_len.trans (by rfl)) (hst : (assignEach es X.env).findIdx? (·.1) = some i := by rfl)
    (hm : (assignEach es X.env).map (·.2) = (assignEach es' X.env).map (·.2) := by rfl) : DG X (.Tuple es k pos) sl (gStar m n i gs) := by
  refine ⟨?_⟩
  intro ro fr σ H env st x v Q E S r ⟨xs, hx, hz, hl, q⟩
  cases r with
  | @tup a ys vs h1 h2 =>
    simp only [unpS, Option.some.injEq] at hx
    subst hx
    refine toWG (pg_star hc (pgs_W X es') hi hn hst hm) ⟨a, vs, rfl, h1.sq, by rw [← h2.length]; exact hl, fun D hD => ?_⟩
    rw [← h2.length]
    obtain ⟨ro1, y, st1, e1, S1, r1, q1⟩ := new_lst m S ((h2.drop i).take (ys.length + 1 - n)) hD q
    refine tWGs.mono (h _ _ _ _ _ _ _ _ _ (E.ext e1) S1 ((((h2.take i).ext e1).append (.cons r1 .nil)).append (((h2.drop i).drop _).ext e1)) q1) fun σ2 H2 ⟨a2, q2⟩ => ⟨a2, q2.ext e1⟩
  | str z =>
    simp only [unpS, Option.some.injEq] at hx
    subst hx
    have h2 := reps_signs (K := X.K) (ro := ro) (fr := fr) (H := H) z
    have hzl : (signsP z).length = z.length := by simp [signsP, Str.length]
    refine toWG (pg_starS hc (pgs_W X es') hi hn hst hm) ⟨z, rfl, by omega, by omega, fun D hD => ?_⟩
    rw [← h2.length]
    obtain ⟨ro1, y, st1, e1, S1, r1, q1⟩ := new_lst m S ((h2.drop i).take ((signsP z).length + 1 - n)) hD q
    refine tWGs.mono (h _ _ _ _ _ _ _ _ _ (E.ext e1) S1 ((((h2.take i).ext e1).append (.cons r1 .nil)).append (((h2.drop i).drop _).ext e1)) q1) fun σ2 H2 ⟨a2, q2⟩ => ⟨a2, q2.ext e1⟩
  | _ => cases hx
end

/-! ### dicts with keys that are ints and texts -/
def kP : PV → Option Key
  | .int i => some (.inl i)
  | .str s => some (.inr s)
  | _ => none
def kPs : List PV → Option (List Key)
  | [] => some []
  | x :: xs => match kP x, kPs xs with
    | some k, some ks => some (k :: ks)
    | _, _ => none
theorem kP_at {K : PySem.W.Frag} {ro fr : List Addr} {H : Hp} {x : PV} {v : V} {k : Key} (r : RepV K ro fr H x v) (h : kP x = some k) : v = kV k := by
  cases r with
  | int i => simp only [kP, Option.some.injEq] at h; subst h; rfl
  | str s => simp only [kP, Option.some.injEq] at h; subst h; rfl
  | _ => cases h
/-- the value at a key -/
def getP : List Key → List PV → Key → Option PV
  | k' :: ks, x :: xs, k => if k' = k then some x else getP ks xs k
  | _, _, _ => none
/-- in its place, or at the end -/
def putP : List Key → List PV → Key → PV → List Key × List PV
  | k' :: ks, x :: xs, k, y => if k' = k then (k' :: ks, y :: xs) else ((k' :: (putP ks xs k y).1), x :: (putP ks xs k y).2)
  | _, _, k, y => ([k], [y])
def RepKV (K : PySem.W.Frag) (ro fr : List Addr) (H : Hp) (ks : List Key) (xs : List PV) (kvs : List (Key × V)) : Prop := kvs.map (·.1) = ks ∧ RepVs K ro fr H xs (kvs.map (·.2))
section
variable {K : PySem.W.Frag} {ro fr : List Addr} {H : Hp}
theorem getP_at : ∀ {ks : List Key} {xs : List PV} {kvs : List (Key × V)} {k : Key}, RepKV K ro fr H ks xs kvs → (∀ x, getP ks xs k = some x → ∃ v, valV kvs k = some v ∧ RepV K ro fr H x v) ∧ (getP ks xs k = none → valV kvs k = none)
  | ks, xs, [], k, ⟨h1, h2⟩ => by
    subst h1
    cases h2
    exact ⟨fun x h => (by cases h), fun _ => rfl⟩
  | ks, xs, p :: kvs, k, ⟨h1, h2⟩ => by
    subst h1
    cases h2 with
    | @cons x xs v vs r1 r2 =>
      have ih := getP_at (k := k) (show RepKV K ro fr H (kvs.map (·.1)) xs kvs from ⟨rfl, r2⟩)
      by_cases e : p.1 = k
      · rw [valV_pos e]
        simp only [List.map_cons, getP, if_pos e]
        exact ⟨fun y h => by cases h; exact ⟨_, rfl, r1⟩, fun h => by cases h⟩
      · rw [valV_neg e]
        simp only [List.map_cons, getP, if_neg e]
        exact ih
theorem putK_cons {p : Key × V} {kvs : List (Key × V)} {k : Key} {v : V} (e : ¬ p.1 = k) : putK (p :: kvs) k v = p :: putK kvs k v := by
  unfold putK
  simp only [List.any_cons, e, decide_false, Bool.false_or, List.map_cons, if_neg e, List.cons_append]
  split <;> rfl
theorem putK_nodup : ∀ {kvs : List (Key × V)} {k : Key} {v : V}, k ∉ kvs.map (·.1) → kvs.map (fun kv => if kv.1 = k then (kv.1, v) else kv) = kvs
  | [], _, _, _ => rfl
  | p :: kvs, k, v, h => by
    simp only [List.map_cons, List.mem_cons, not_or] at h
    rw [List.map_cons, putK_nodup h.2, if_neg (fun e => h.1 e.symm)]
theorem putP_at : ∀ {ks : List Key} {xs : List PV} {kvs : List (Key × V)} {k : Key} {y : PV} {v : V}, ks.Nodup → RepKV K ro fr H ks xs kvs → RepV K ro fr H y v → RepKV K ro fr H (putP ks xs k y).1 (putP ks xs k y).2 (putK kvs k v)
  | ks, xs, [], k, y, v, nd, ⟨h1, h2⟩, r => by
    subst h1
    cases h2
    exact ⟨rfl, .cons r .nil⟩
  | ks, xs, p :: kvs, k, y, v, nd, ⟨h1, h2⟩, r => by
    subst h1
    cases h2 with
    | @cons x xs u vs r1 r2 =>
      simp only [List.map_cons, List.nodup_cons] at nd
      by_cases e : p.1 = k
      · simp only [List.map_cons, putP, if_pos e]
        have e1 : putK (p :: kvs) k v = (p.1, v) :: kvs := by
          unfold putK
          simp only [List.any_cons, e, decide_true, Bool.true_or, if_true, List.map_cons]
          rw [putK_nodup (e ▸ nd.1)]
        rw [e1]
        exact ⟨rfl, .cons r r2⟩
      · simp only [List.map_cons, putP, if_neg e]
        rw [putK_cons e]
        have ih := putP_at nd.2 (k := k) (show RepKV K ro fr H (kvs.map (·.1)) xs kvs from ⟨rfl, r2⟩) r
        exact ⟨by rw [List.map_cons, ih.1], .cons r1 ih.2⟩
theorem putP_nodup : ∀ {ks : List Key} {xs : List PV} {k : Key} {y : PV}, ks.length = xs.length → ks.Nodup → (putP ks xs k y).1.Nodup ∧ (putP ks xs k y).1.length = (putP ks xs k y).2.length ∧ ∀ j, j ∈ (putP ks xs k y).1 → j ∈ ks ∨ j = k
  | [], [], k, y, _, _ => ⟨by simp [putP], rfl, fun j h => by simp [putP] at h; exact .inr h⟩
  | k' :: ks, x :: xs, k, y, hl, nd => by
    simp only [List.nodup_cons, List.length_cons, Nat.add_right_cancel_iff] at nd hl
    by_cases e : k' = k
    · simp only [putP, if_pos e]
      exact ⟨List.nodup_cons.mpr nd, by simp [hl], fun j h => .inl h⟩
    · simp only [putP, if_neg e]
      obtain ⟨h1, h2, h3⟩ := putP_nodup (k := k) (y := y) hl nd.2
      refine ⟨List.nodup_cons.mpr ⟨fun m => (h3 _ m).elim nd.1 e, h1⟩, by simp [h2], fun j h => ?_⟩
      rcases List.mem_cons.mp h with h | h
      · exact .inl (by rw [h]; exact List.mem_cons_self)
      · exact (h3 j h).imp (List.mem_cons_of_mem _) id
end
/-- a dict as keys and values -/
def dkP (st : Sto) : PV → Option (List Key × List PV)
  | .dk ks xs => some (ks, xs)
  | .ref n => match st[n]? with
    | some (.dk ks xs) => some (ks, xs)
    | _ => none
  | _ => none
theorem dkP_at {K : PySem.W.Frag} {ro fr : List Addr} {H : Hp} {st : Sto} {x : PV} {v : V} {ks : List Key} {xs : List PV} (S : RepS K ro fr H st) (r : RepV K ro fr H x v) (h : dkP st x = some (ks, xs)) : ∃ a kvs, v = .ref a ∧ H a = some (.dK kvs) ∧ RepKV K ro fr H ks xs kvs := by
  cases r with
  | dk h1 h2 h3 => simp only [dkP, Option.some.injEq, Prod.mk.injEq] at h; obtain ⟨rfl, rfl⟩ := h; exact ⟨_, _, rfl, h1.1, h2, h3⟩
  | @ref a n h1 =>
    simp only [dkP] at h
    split at h
    · rename_i ks' xs' hc
      simp only [Option.some.injEq, Prod.mk.injEq] at h; obtain ⟨rfl, rfl⟩ := h
      obtain ⟨kvs, q1, q2, q3⟩ := S.at_ n _ a hc h1
      exact ⟨a, kvs, rfl, q1, q2, q3⟩
    · cases h
  | _ => cases h
def dgetR : OpP := fun x y st Q => ∃ ks xs k z, dkP st x = some (ks, xs) ∧ kP y = some k ∧ getP ks xs k = some z ∧ Q z st
section
variable {X : Cx} {o i : Expr} {wo wi : WE} {pos : Pos}
theorem d_dget {k : Nat} (G : XG k X) (ho : DE X o wo) (hi : DE X i wi) (hs : NoSl i := by exact pix_no (by rfl)) : DE X (.Subscript o i pos) (wOp dgetR wo wi) := by
  refine ⟨?_⟩
  intro ro fr σ H env st Q E S h
  refine toW (pe_dget (by have := G.room.un; omega) (pe_W X o) (pe_W X i) hs) ?_
  refine tW.mono (ho _ _ _ _ _ _ _ E S h) fun v H1 ⟨ro1, x, st1, e1, S1, r1, h1⟩ => ?_
  refine tW.mono (hi _ _ _ _ _ _ _ (E.ext e1) S1 h1) fun u H2 ⟨ro2, y, st2, e2, S2, r2, ks, xs, k, z, hx, hy, hz, q⟩ => ?_
  obtain ⟨a, kvs, rfl, ha, rk⟩ := dkP_at S2 (r1.ext e2) hx
  obtain ⟨w, hw, rw'⟩ := (getP_at rk).1 z hz
  exact ⟨a, w, rfl, .inl ⟨kvs, k, .inl ha, kP_at r2 hy, hw.symm⟩, ro2, z, st2, e1.trans e2, S2, rw', q⟩
end
end Pv

/-! Pv9: list(zip(xs, ys)) of two lists; dict displays; two names at once. -/
namespace Pv
open PySem PySem.Spec L2

theorem zip_no_len : typeLookup (.type "zip") "__len__" = pure none := by rw [typeLookup_type, builtinLookup_eq_fast]; kernel_rfl
theorem zip_no_hint : typeLookup (.type "zip") "__length_hint__" = pure none := by rw [typeLookup_type, builtinLookup_eq_fast]; kernel_rfl

/-- the heap stands on but for S -/
def Grow (S : Addr) (H H' : Hp) : Prop := ∀ c o, c ≠ S → H c = some o → H' c = some o
theorem sqL_grow {K : PySem.W.Frag} {S a : Addr} {H H' : Hp} {xs : List V} (g : Grow S H H') (h : SqL K H a xs) (hne : a ≠ S) : SqL K H' a xs := by
  rcases h with (h | ⟨o, h⟩) | h
  · exact .inl (.inl (g a _ hne h))
  · exact .inl (.inr ⟨o, g a _ hne h⟩)
  · exact .inr h
def ZSt (z TI TO i1 i2 a b S : Addr) (i : Nat) (h : Heap) : Prop := (∃ o, h.get? TO = some o) ∧ IsPair h TI (.ref i1) (.ref i2) ∧ h.IsListIter i1 a i ∧ h.IsListIter i2 b i ∧
  ((IsZip h z TI TO .none ∧ ∃ p q, IsPair h TO p q) ∨ ∃ T f oT, IsZipHeld h z TI TO T f ∧ h.get? T = some oT ∧ T ≠ z ∧ T ≠ i1 ∧ T ≠ i2 ∧ T ≠ S)
/-- the pairs made so far -/
def Pairs (H0 H : Hp) (xs ys : List V) (as : List Addr) : Prop := ∀ (j : Nat) (t : Addr), as[j]? = some t → H0 t = none ∧ ∃ x y, xs[j]? = some x ∧ ys[j]? = some y ∧ H t = some (.tup [x, y])
theorem ZSt.at {z TI TO i1 i2 a b S : Addr} {i : Nat} {h h' : Heap} (st : ZSt z TI TO i1 i2 a b S i h) (hS : z ≠ S ∧ TI ≠ S ∧ TO ≠ S ∧ i1 ≠ S ∧ i2 ≠ S) (k : ∀ c o, c ≠ S → h.get? c = some o → h'.get? c = some o) : ZSt z TI TO i1 i2 a b S i h' := by
  obtain ⟨⟨oTO, hoTO⟩, hTI, h1, h2, hz⟩ := st
  obtain ⟨n1, n2, n3, n4, n5⟩ := hS
  refine ⟨⟨_, k _ _ n3 hoTO⟩, k _ _ n2 hTI, h1.at fun o e => k _ o n4 e, h2.at fun o e => k _ o n5 e, ?_⟩
  rcases hz with ⟨hz, p, q, hTO⟩ | ⟨T, f, oT, hz, hT, r1, r2, r3, r4⟩
  · exact .inl ⟨k _ _ n1 hz, p, q, k _ _ n3 hTO⟩
  · exact .inr ⟨T, f, oT, k _ _ n1 hz, k _ _ r4 hT, r1, r2, r3, r4⟩
section
variable {X : Cx} {pins : List (Addr × Obj)} {σ : L2.St} {S z TI TO i1 i2 a b : Addr} {xs ys : List V} {H0 : Hp}
theorem loopZ {A : Around} {R : Result → Shared → Prop} (hh : A.handled = none) (D : ZipApart z TI TO i1 i2 a b) (hS : z ≠ S ∧ TI ≠ S ∧ TO ≠ S ∧ i1 ≠ S ∧ i2 ≠ S) (haS : a ≠ S) (hbS : b ≠ S) (hS0 : H0 S = none) (qx : SqL X.K H0 a xs) (qy : SqL X.K H0 b ys) (hl : xs.length ≤ sizeLine) (res : Value)
    (hR : ∀ (H' : Hp) (s' : Shared) (as : List Addr), Inv X pins σ H' s' → Grow S H0 H' → H' S = some (.lst (as.map V.ref)) → as.length = min xs.length ys.length → Pairs H0 H' xs ys as → R (.ok (.ret res)) s') :
    ∀ (k i : Nat) (H : Hp) (s : Shared) (as : List Addr), min xs.length ys.length - i = k → i ≤ min xs.length ys.length → Inv X pins σ H s → (∀ c ∈ [z, TI, TO, i1, i2], FpOk X pins H c) → ZSt z TI TO i1 i2 a b S i s.heap → Grow S H0 H →
      H S = some (.lst (as.map V.ref)) → as.length = i → Pairs H0 H xs ys as → codeAny (model X.prog X.w) A (.builtin "list.extend.loop" ⟨[.ref S, .ref z, res], []⟩) R s := by
  intro k
  induction k with
  | zero =>
    intro i H s as hk hi I hf st hg hHS hal hP
    refine codeAny_builtin F.entry_extend_loop ?_
    rw [Around.under_plainId F.plain_extend_loop _]
    show wpAny _ A.in1 (pyNext (.ref z) >>= _) _ _ _
    obtain ⟨⟨oTO, hoTO⟩, hTI, h1, h2, hz⟩ := st
    obtain ⟨its, rv, p, _⟩ := I.list (sqL_grow hg qx haS)
    obtain ⟨its2, rv2, p2, _⟩ := I.list (sqL_grow hg qy hbS)
    have l1 := rv.length
    have l2 := rv2.length
    have he : its.toArray[i]? = none ∨ its2.toArray[i]? = none := by
      by_cases q : xs.length ≤ i
      · exact .inl (by simp; omega)
      · exact .inr (by simp; omega)
    have fin : ∀ h', (∀ c o, c ≠ z → c ≠ TO → c ≠ i1 → c ≠ i2 → s.heap.get? c = some o → h'.get? c = some o) → R (.ok (.ret res)) { s with heap := h' } := fun h' kp =>
      hR H _ as (I.turnedL (t' := s.toks) (ch := [z, TI, TO, i1, i2]) (fun c o hb q => kp c o (fun q' => hb (by simp [q'])) (fun q' => hb (by simp [q'])) (fun q' => hb (by simp [q'])) (fun q' => hb (by simp [q'])) q) hf) hg hHS (by omega) hP
    rcases hz with ⟨hz, x0, y0, hTO⟩ | ⟨T, f, oT, hz, hT, r1, r2, r3, r4⟩
    · exact wpAny_bind (wpAny_pyNext_zip_end (A := A.in1) hh D hz hTI hTO h1 h2 p.isList p2.isList he fun h' kp => wpAny_pure (fin h' kp))
    · exact wpAny_bind (wpAny_pyNext_zip_end_held (A := A.in1) hh D hz hT hTI h1 h2 p.isList p2.isList he fun h' kp => wpAny_pure (fin h' fun c o a1 a2 a3 a4 e => kp c o a1 a3 a4 e))
  | succ k ih =>
    intro i H s as hk hi I hf st hg hHS hal hP
    refine codeAny_builtin F.entry_extend_loop ?_
    rw [Around.under_plainId F.plain_extend_loop _]
    show wpAny _ A.in1 (pyNext (.ref z) >>= _) _ _ _
    obtain ⟨⟨oTO, hoTO⟩, hTI, h1, h2, hz⟩ := st
    have qx' := sqL_grow hg qx haS
    have qy' := sqL_grow hg qy hbS
    obtain ⟨its, rv, p, _⟩ := I.list qx'
    obtain ⟨its2, rv2, p2, _⟩ := I.list qy'
    have hx : xs[i]? = some (xs[i]'(by omega)) := List.getElem?_eq_getElem _
    have hy : ys[i]? = some (ys[i]'(by omega)) := List.getElem?_eq_getElem _
    obtain ⟨u, hu, ru⟩ := rv.get hx
    obtain ⟨u2, hu2, ru2⟩ := rv2.get hy
    have hT0 : H s.heap.objs.size = none := I.hok.fresh (Nat.le_refl _)
    have nS : s.heap.objs.size ≠ S := fun e => by rw [← e, hT0] at hHS; cases hHS
    have lt : ∀ {c o}, s.heap.get? c = some o → s.heap.objs.size ≠ c := fun e => Nat.ne_of_gt (Heap.lt_size e)
    have nz : s.heap.objs.size ≠ z := by rcases hz with ⟨hz, _⟩ | ⟨_, _, _, hz, _⟩ <;> exact lt hz
    have n1 : s.heap.objs.size ≠ i1 := let ⟨_, e, _⟩ := h1; lt e
    have n2 : s.heap.objs.size ≠ i2 := let ⟨_, e, _⟩ := h2; lt e
    -- the pair is there: it goes onto the list
    have go : ∀ h', ZSt z TI TO i1 i2 a b S (i + 1) h' → IsPair h' s.heap.objs.size u u2 → (∀ c o, c ≠ z → c ≠ TO → c ≠ i1 → c ≠ i2 → s.heap.get? c = some o → h'.get? c = some o) →
        wpAny (model X.prog X.w) A.in1 (updateSeq S (·.push (Value.ref s.heap.objs.size)) >>= fun _ => again (.builtin "list.extend.loop" ⟨[.ref S, .ref z, res], []⟩))
          (fun fin s' => match fin with | .done f => R (.ok f) s' | .again c' => c'.quiet = true ∧ codeAny (model X.prog X.w) A c' R s') (fun e s' => R (.error e) s') { s with heap := h' } := by
      intro h' st' hT kp
      have new : ObjOk X.prog X.w (upd H s.heap.objs.size (.tup [xs[i]'(by omega), ys[i]'(by omega)])) h' s.heap.objs.size (.tup [xs[i]'(by omega), ys[i]'(by omega)]) :=
        ⟨by show 2 ≤ sizeLine; decide, [u, u2], .cons ru (.cons ru2 .nil), ⟨_, hT, rfl, _, rfl⟩⟩
      have I1 : Inv X pins σ (upd H s.heap.objs.size (.tup [xs[i]'(by omega), ys[i]'(by omega)])) { s with heap := h' } :=
        I.turnedNew (t' := s.toks) (ch := [z, TI, TO, i1, i2]) (fun c o hb q => kp c o (fun q' => hb (by simp [q'])) (fun q' => hb (by simp [q'])) (fun q' => hb (by simp [q'])) (fun q' => hb (by simp [q'])) q) hf (Nat.le_refl _) new
      have hHS1 : upd H s.heap.objs.size (.tup [xs[i]'(by omega), ys[i]'(by omega)]) S = some (.lst (as.map V.ref)) := by rw [upd_ne (Ne.symm nS)]; exact hHS
      obtain ⟨zz, us, n, r, hlu, e⟩ := I1.lstM hHS1
      have hlen : us.length = i := by rw [← hlu, List.length_map, hal]
      refine wpAny_bind (wpAny_updateSeq (s := { s with heap := h' }) e rfl (wpAny_pure ⟨plainId_quiet F.plain_extend_loop _, ?_⟩) (by simp; omega) (by simp; omega))
      have I2 := I1.lset (its' := us ++ [.ref s.heap.objs.size]) (ys := (as ++ [s.heap.objs.size]).map V.ref) (t' := s.toks) hHS1 e (f := (·.push (Value.ref s.heap.objs.size))) (by simp) (by rw [List.map_append]; exact r.append (.cons (show RelV (V.ref _) (Value.ref _) from rfl) .nil)) (by simp; omega)
      refine ih (i + 1) _ _ (as ++ [s.heap.objs.size]) (by omega) (by omega) I2 (fun c hc => ?_) (st'.at hS fun c o hc q => (Heap.get?_update_other _ _ (Ne.symm hc)).trans q) ?_ upd_same (by simp [hal]) ?_
      · have q := hf c hc
        have hc' : c ≠ s.heap.objs.size ∧ c ≠ S := by
          have e' : c = z ∨ c = TI ∨ c = TO ∨ c = i1 ∨ c = i2 := by simpa using hc
          obtain ⟨m1, m2, m3, m4, m5⟩ := hS
          refine ⟨?_, by rcases e' with q | q | q | q | q <;> (rw [q]; assumption)⟩
          rcases e' with q | q | q | q | q
          · rw [q]; exact Ne.symm nz
          · rw [q]; exact Ne.symm (lt hTI)
          · rw [q]; exact Ne.symm (lt hoTO)
          · rw [q]; exact Ne.symm n1
          · rw [q]; exact Ne.symm n2
        exact ⟨by rw [upd_ne hc'.2, upd_ne hc'.1]; exact q.1, q.2⟩
      · intro c o hc q
        have q1 := hg c o hc q
        rw [upd_ne hc, upd_ne (ne_of_none q1 hT0)]
        exact q1
      · intro j t hj
        by_cases h : j < as.length
        · rw [List.getElem?_append_left h] at hj
          obtain ⟨q1, x, y, q2, q3, q4⟩ := hP j t hj
          have tS : t ≠ S := fun e => by rw [e, hHS] at q4; cases q4
          exact ⟨q1, x, y, q2, q3, by rw [upd_ne tS, upd_ne (ne_of_none q4 hT0)]; exact q4⟩
        · rw [List.getElem?_append_right (by omega)] at hj
          have e0 : j - as.length = 0 := by
            have := (List.getElem?_eq_some_iff.mp hj).1
            simp at this; omega
          rw [e0] at hj
          simp at hj
          have ej : j = i := by omega
          subst hj; subst ej
          refine ⟨?_, _, _, hx, hy, by rw [upd_ne nS, upd_same]⟩
          cases q : H0 s.heap.objs.size with
          | none => rfl
          | some o =>
            have := hg _ o nS q
            rw [hT0] at this; cases this
    rcases hz with ⟨hz, x0, y0, hTO⟩ | ⟨T, f, oT, hz, hT, r1, r2, r3, r4⟩
    · refine wpAny_bind (wpAny_pyNext_zip_item (A := A.in1) D hz hTI hTO h1 h2 p.isList p2.isList (x := u) (y := u2) (by simpa using hu) (by simpa using hu2) fun h' a1 a2 a3 a4 a5 a6 kp => ?_)
      exact go h' ⟨⟨_, a2⟩, kp _ _ D.TIz D.TITO D.TIi1 D.TIi2 hTI, a3, a4, .inr ⟨s.heap.objs.size, false, _, a1, a5, nz, n1, n2, nS⟩⟩ a5 kp
    · refine wpAny_bind (wpAny_pyNext_zip_item_held (A := A.in1) D hz hT hTI h1 h2 p.isList p2.isList (x := u) (y := u2) (by simpa using hu) (by simpa using hu2) fun h' a1 a3 a4 a5 a6 kp => ?_)
      exact go h' ⟨⟨_, kp _ _ D.TOz D.TOi1 D.TOi2 hoTO⟩, kp _ _ D.TIz D.TIi1 D.TIi2 hTI, a3, a4, .inr ⟨T, true, oT, a1, kp _ _ r1 r2 r3 hT, r1, r2, r3, r4⟩⟩ a5 fun c o b1 b2 b3 b4 e => kp c o b1 b3 b4 e

theorem call_list_zip {Q : VK} (hc : X.calm = true) {H : Hp} {s : Shared} (I : Inv X pins σ H s) (D : ZipApart z TI TO i1 i2 a b) (qx : SqL X.K H a xs) (qy : SqL X.K H b ys) (hf : ∀ c ∈ [z, TI, TO, i1, i2], FpOk X pins H c)
    (hz : IsZip s.heap z TI TO .none) (hTI : IsPair s.heap TI (.ref i1) (.ref i2)) (hTO : ∃ p q, IsPair s.heap TO p q) (h1 : s.heap.IsListIter i1 a 0) (h2 : s.heap.IsListIter i2 b 0)
    (h : ∀ (H' : Hp) (D : Addr) (as : List Addr), H D = none → (∀ c o, H c = some o → H' c = some o) → H' D = some (.lst (as.map V.ref)) → as.length = min xs.length ys.length → Pairs H H' xs ys as → Q (.ref D) H') :
    wpAny (model X.prog X.w) X.A (call (.type "list") [.ref z]) (EP X pins σ Q) X.xe s := by
  have hh := I.ok.hd hc
  obtain ⟨its, rv, p, hlx⟩ := I.list qx
  obtain ⟨its2, rv2, p2, _⟩ := I.list qy
  have hS0 : H s.heap.objs.size = none := I.hok.fresh (Nat.le_refl _)
  obtain ⟨t1, t2, hTO⟩ := hTO
  have lt : ∀ {c o}, s.heap.get? c = some o → c ≠ s.heap.objs.size := fun e => Nat.ne_of_lt (Heap.lt_size e)
  have hS : z ≠ s.heap.objs.size ∧ TI ≠ s.heap.objs.size ∧ TO ≠ s.heap.objs.size ∧ i1 ≠ s.heap.objs.size ∧ i2 ≠ s.heap.objs.size :=
    ⟨lt hz, lt hTI, lt hTO, let ⟨_, e, _⟩ := h1; lt e, let ⟨_, e, _⟩ := h2; lt e⟩
  refine callType_codes (Q₁ := fun obj s₁ => obj = .ref s.heap.objs.size ∧ s₁ = { s with heap := s.heap.push { cls := .type "list", data := .seq #[] } }) F.called_list (F.typeCall_list_1 _) F.entry_list_init
    (code_list_new _ ⟨rfl, rfl⟩) fun obj s₁ h₁ => ?_
  obtain ⟨rfl, rfl⟩ := h₁
  have e0 : (s.heap.push { cls := .type "list", data := .seq #[] }).get? s.heap.objs.size = some { cls := .type "list", data := .seq #[] } := Heap.get?_push_size _ rfl
  refine ⟨⟨_, e0, rfl⟩, F.args_list_init_2 _ _, ?_⟩
  show wpAny _ X.A.in1.in1 (do let old ← Builtin.List.listItems (.ref s.heap.objs.size); Builtin.List.listUpdate (.ref s.heap.objs.size) (fun _ => #[]); letGo old.toList.reverse; Builtin.List.listExtendWith (.ref s.heap.objs.size) (.ref z) .none) _ _ _
  refine wpAny_bind ?_
  unfold Builtin.List.listItems
  refine wpAny_bind (wpAny_seqItems e0 rfl (wpAny_pure ?_))
  show wpAny _ X.A.in1.in1 (updateSeq s.heap.objs.size (fun _ => #[]) >>= fun _ => letGo (#[] : Array Value).toList.reverse >>= fun _ => Builtin.List.listExtendWith (.ref s.heap.objs.size) (.ref z) .none) _ _ _
  refine wpAny_bind (wpAny_updateSeq e0 rfl ?_)
  have e1 := Heap.get?_update_self (Obj.mapSeq (fun _ => (#[] : Array Value))) e0 rfl
  refine wpAny_bind (wpAny_letGo ?_)
  have k1 : ∀ c o, s.heap.get? c = some o → ((s.heap.push { cls := .type "list", data := .seq #[] }).update s.heap.objs.size (Obj.mapSeq (fun _ => (#[] : Array Value)))).get? c = some o :=
    fun c o e => (Heap.get?_update_other _ _ (Ne.symm (lt e))).trans (Heap.get?_push_of_some _ e)
  generalize hg1 : (s.heap.push { cls := .type "list", data := .seq #[] }).update s.heap.objs.size (Obj.mapSeq (fun _ => (#[] : Array Value))) = g1 at e1 k1
  unfold Builtin.List.listExtendWith
  have tz : ∀ g : Heap, (∀ c o, s.heap.get? c = some o → g.get? c = some o) → Shared.TypeIs { s with heap := g } (.ref z) "zip" := fun g k => ⟨_, k _ _ hz, rfl⟩
  refine wpAny_bind (wpAny_typeOf (tz g1 k1) ?_)
  have q1 : Builtin.List.listSameRef (.ref s.heap.objs.size) (.ref z) = false := by simp [Builtin.List.listSameRef, Ne.symm hS.1]
  have q2 : (Value.type "zip" == Value.type "list") = false := by decide
  have q3 : (Value.type "zip" == Value.type "tuple") = false := by decide
  simp only [q1, q2, q3, Bool.or_false, Bool.false_eq_true, if_false]
  refine wpAny_bind (wpAny_pyIter_zip (s := { s with heap := g1 }) (k1 _ _ hz) ?_)
  refine wpAny_bind (wpAny_holding ?_)
  unfold Builtin.List.listLengthHint
  refine wpAny_bind (wpAny_specialOf (tz g1 k1) zip_no_len ?_)
  show wpAny _ X.A.in1.in1 (specialOf (Value.ref z) (Str.ofString "__length_hint__") >>= _) _ _ _
  refine wpAny_bind (wpAny_specialOf (tz g1 k1) zip_no_hint ?_)
  refine wpAny_pure ?_
  show wpAny _ X.A.in1.in1 (rule "list.extend.makes-room" >>= fun _ => Builtin.List.listTouch (.ref s.heap.objs.size) >>= fun _ =>
    again (.builtin "list.extend.loop" ⟨[.ref s.heap.objs.size, .ref z, .none], []⟩)) _ _ _
  refine wpAny_bind (wpAny_rule ?_)
  refine wpAny_bind ?_
  show wpAny _ X.A.in1.in1 (updateSeq s.heap.objs.size (·.push .none) >>= fun _ => updateSeq s.heap.objs.size (·.pop)) _ _ _
  refine wpAny_bind (wpAny_updateSeq (s := { s with heap := g1 }) e1 rfl ?_)
  have e2 := Heap.get?_update_self (Obj.mapSeq (·.push Value.none)) e1 rfl
  refine wpAny_updateSeq (s := { s with heap := g1.update s.heap.objs.size (Obj.mapSeq (·.push Value.none)) }) (hz := by seq_fits) e2 rfl ?_
  have e3 := Heap.get?_update_self (Obj.mapSeq (·.pop)) e2 rfl
  have k3 : ∀ c o, s.heap.get? c = some o → ((g1.update s.heap.objs.size (Obj.mapSeq (·.push Value.none))).update s.heap.objs.size (Obj.mapSeq (·.pop))).get? c = some o :=
    fun c o e => (Heap.get?_update_other _ _ (Ne.symm (lt e))).trans ((Heap.get?_update_other _ _ (Ne.symm (lt e))).trans (k1 c o e))
  have I3 : Inv X pins σ (upd H s.heap.objs.size (.lst [])) { s with heap := (g1.update s.heap.objs.size (Obj.mapSeq (·.push Value.none))).update s.heap.objs.size (Obj.mapSeq (·.pop)) } :=
    I.laid (t' := s.toks) k3 (Nat.le_refl _) (show ObjOk X.prog X.w _ _ _ (.lst []) from ⟨Nat.zero_le _, [], _, .nil, e3⟩)
  have hHS : upd H s.heap.objs.size (.lst []) s.heap.objs.size = some (.lst (([] : List Addr).map V.ref)) := upd_same
  have haS : a ≠ s.heap.objs.size := Nat.ne_of_lt p.lt
  have hbS : b ≠ s.heap.objs.size := Nat.ne_of_lt p2.lt
  refine wpAny_pure ⟨plainId_quiet F.plain_extend_loop _, loopZ (A := X.A.in1) (H0 := H) (pins := pins) (σ := σ) hh D hS haS hbS hS0 qx qy hlx .none (fun H' s' as I' g hD hal hP => ?_) _ 0 _ _ [] rfl (Nat.zero_le _) I3 (fun c hc => ?_)
    ⟨⟨_, k3 _ _ hTO⟩, k3 _ _ hTI, h1.at fun o e => k3 _ o e, h2.at fun o e => k3 _ o e, .inl ⟨k3 _ _ hz, _, _, k3 _ _ hTO⟩⟩ (fun c o hc e => by rw [upd_ne hc]; exact e) hHS rfl (fun j t e => by simp at e)⟩
  · refine ⟨rfl, .ref s.heap.objs.size, H', I', rfl, h H' _ as hS0 (fun c o e => g c o (ne_of_none e hS0) e) hD hal hP⟩
  · have q := hf c hc
    have hc' : c ≠ s.heap.objs.size := by
      have e' : c = z ∨ c = TI ∨ c = TO ∨ c = i1 ∨ c = i2 := by simpa using hc
      obtain ⟨m1, m2, m3, m4, m5⟩ := hS
      rcases e' with q | q | q | q | q <;> (rw [q]; assumption)
    exact ⟨by rw [upd_ne hc']; exact q.1, q.2⟩
end
section
variable {X : Cx} {e e2 : Expr} {ta : TA} {p p2 pos pos2 : Pos}
def tZipL (K : PySem.W.Frag) (ta : TA) : TE := fun σ H Q => ta σ H fun vs H1 => ∃ a b xs ys, vs = [.ref a, .ref b] ∧ SqL K H1 a xs ∧ SqL K H1 b ys ∧
  ∀ (H' : Hp) (D : Addr) (as : List Addr), H1 D = none → (∀ c o, H1 c = some o → H' c = some o) → H' D = some (.lst (as.map V.ref)) → as.length = min xs.length ys.length → Pairs H1 H' xs ys as → Q (.ref D) H'
theorem pe_listZip (hc : X.calm = true) (hg : Gl X "zip") (hm : X.mg "zip" = none) (hg2 : Gl X "list") (hm2 : X.mg "list" = none) (ha : PA X [e, e2] ta)
    (hs : starEach [e, e2] X.env = (false, eval e X.env) :: starEach [e2] X.env := by exact star_cons (by rfl)) (hpl : (backTo pos (starEach [e2] X.env)).any (·.1) = false := by exact star_plain (by rfl))
    (hs2 : starEach [.Call (.Name "zip" p) [e, e2] [] pos] X.env = [(false, eval (.Call (.Name "zip" p) [e, e2] [] pos) X.env)] := by exact star_one (by rfl)) :
    PE X (.Call (.Name "list" p2) [.Call (.Name "zip" p) [e, e2] [] pos] [] pos2) (tZipL X.K ta) := by
  refine ⟨fun pins s σ H Q I h => ?_⟩
  refine PyProof.Rows.Call_ (ld_blt I hg2 hm2 PyProof.Rows.boot_list (PyProof.Rows.callWith_type1 ?_ hs2 rfl))
  rw [hs2]
  refine Calls.spliced_cons ?_
  refine PyProof.Rows.Call_ (ld_blt I hg hm PyProof.Rows.boot_zip (PyProof.Rows.callWith_type1 (thn (ha.run pos pins s σ H _ I h) fun us s1 ⟨vs, H1, I1, r1, q1⟩ => ?_) hs hpl))
  obtain ⟨a, b, xs, ys, ex, hqx, hqy, q⟩ := q1
  subst ex
  cases r1 with
  | cons r rr =>
    cases rr with
    | cons r' rr =>
      cases rr
      cases r
      cases r'
      obtain ⟨its, rv, p1, _⟩ := I1.list hqx
      obtain ⟨its2, rv2, p2, _⟩ := I1.list hqy
      refine call_zip_2 p1.isList p2.isList fun h' hz hTI hTO h1 h2 hsz hk => Calls.spliced_nil ?_
      have I2 : Inv X pins σ H1 { s1 with heap := h' } := I1.kept (t' := s1.toks) hk
      refine call_list_zip hc I2 (PySem.W.ktu_apart s1.heap.objs.size a b p1.lt p2.lt) hqx hqy (fun c hcm => ?_) hz hTI ⟨_, _, hTO⟩ h1 h2 q
      have e' : c = s1.heap.objs.size + 4 ∨ c = s1.heap.objs.size + 2 ∨ c = s1.heap.objs.size + 3 ∨ c = s1.heap.objs.size ∨ c = s1.heap.objs.size + 1 := by simpa using hcm
      have hle : s1.heap.objs.size ≤ c := by
        rcases e' with z | z | z | z | z
        · rw [z]; exact Nat.le_add_right _ _
        · rw [z]; exact Nat.le_add_right _ _
        · rw [z]; exact Nat.le_add_right _ _
        · rw [z]; exact Nat.le_refl _
        · rw [z]; exact Nat.le_add_right _ _
      exact I1.fpOk hle (I1.hok.fresh hle)
end
end Pv

/-! Pv10: list(zip(..)), displays, by values; two names at once. -/
namespace Pv
open PySem PySem.Spec L2

section
variable {K : PySem.W.Frag} {ro fr : List Addr} {H H' : Hp} {st : Sto}
theorem ext_grow (g : ∀ c o, H c = some o → H' c = some o) : Ext ro H ro H' := ⟨⟨[], by simp⟩, fun a o h _ => g a o h, fun _ h => .inl h⟩
/-- the heap has grown, one new object is set aside -/
theorem RepS.asideG {D : Addr} {o : HO} (S : RepS K ro fr H st) (hD : H D = none) (hD' : H' D = some o) (g : ∀ c o, H c = some o → H' c = some o) : RepS K ro (D :: fr) H' st where
  len := S.len
  nd := S.nd
  dis := fun a m z => by
    rcases List.mem_cons.mp z with z | z
    · subst z; exact (S.fresh hD).1 m
    · exact S.dis a m z
  at_ := fun n c a h1 h2 => by
    have q := S.at_ n c a h1 h2
    obtain ⟨u, hu⟩ := q.some
    refine (q.map (H' := H) (fr' := D :: fr) (ro' := ro) rfl fun _ _ r => r.more fun b m => (List.mem_cons.mp m).elim (fun z => .inr (z ▸ hD)) .inl).ext (ext_grow g) (by rw [g _ _ hu, hu])
  frT := fun a m => by
    rcases List.mem_cons.mp m with e | m
    · subst e; exact ⟨_, hD'⟩
    · obtain ⟨u, h⟩ := S.frT a m; exact ⟨u, g _ _ h⟩
def zipP (xs ys : List PV) : List PV := (xs.zip ys).map fun p => .tup [p.1, p.2]
theorem zip_reps {H0 : Hp} {D : Addr} {vs : List V} (g : ∀ c o, H0 c = some o → H' c = some o) (S : RepS K ro fr H0 st) (hD0 : H0 D = none) (hD : H' D = some (.lst vs)) : ∀ {xs ys : List PV} {us ws : List V} {as : List Addr}, RepVs K ro fr H0 xs us → RepVs K ro fr H0 ys ws → as.length = min us.length ws.length → Pairs H0 H' us ws as →
    RepVs K ro (D :: fr) H' (zipP xs ys) (as.map V.ref)
  | [], ys, us, ws, as, r1, r2, hl, hp => by
    cases r1
    have : as = [] := List.length_eq_zero_iff.mp (by simpa using hl)
    subst this; exact .nil
  | x :: xs, [], us, ws, as, r1, r2, hl, hp => by
    cases r2
    have : as = [] := List.length_eq_zero_iff.mp (by simpa using hl)
    subst this; exact .nil
  | x :: xs, y :: ys, _, _, as, .cons (v := u) (vs := us) r1 r1', .cons (v := w) (vs := ws) r2 r2', hl, hp => by
    cases as with
    | nil => simp at hl
    | cons a as =>
      have up : ∀ {x v}, RepV K ro fr H0 x v → RepV K ro (D :: fr) H' x v := fun r => (r.more fun b m => (List.mem_cons.mp m).elim (fun z => .inr (z ▸ hD0)) .inl).ext (ext_grow g)
      obtain ⟨q0, x', y', e1, e2, e3⟩ := hp 0 a rfl
      simp at e1 e2; subst e1; subst e2
      have hf := S.fresh q0
      have hne : a ≠ D := fun z => by rw [z, hD] at e3; cases e3
      refine .cons (.tup (.inl ⟨.inl e3, hf.1, fun m => (List.mem_cons.mp m).elim hne hf.2⟩) (.cons (up r1) (.cons (up r2) .nil))) ?_
      exact zip_reps g S hD0 hD r1' r2' (by simp at hl ⊢; omega) fun j t h => by
        obtain ⟨z0, x, y, z1, z2, z3⟩ := hp (j + 1) t (by simpa using h)
        exact ⟨z0, x, y, by simpa using z1, by simpa using z2, z3⟩
end
def zipLR (m : Bool) : CaP := fun xs st Q => ∃ x y as bs, xs = [x, y] ∧ lstP st x = some as ∧ lstP st y = some bs ∧ newL m (zipP as bs) st Q
section
variable {X : Cx} {e e2 : Expr} {wa : WA} {p p2 pos pos2 : Pos}
theorem d_listZip (m : Bool) (hc : X.calm = true) (hg : Gl X "zip") (hm : X.mg "zip" = none) (hg2 : Gl X "list") (hm2 : X.mg "list" = none) (ha : DA X [e, e2] wa)
    (hs : starEach [e, e2] X.env = (false, eval e X.env) :: starEach [e2] X.env := by exact star_cons (by rfl)) (hpl : (backTo pos (starEach [e2] X.env)).any (·.1) = false := by exact star_plain (by rfl))
    (hs2 : starEach [.Call (.Name "zip" p) [e, e2] [] pos] X.env = [(false, eval (.Call (.Name "zip" p) [e, e2] [] pos) X.env)] := by exact star_one (by rfl)) :
    DE X (.Call (.Name "list" p2) [.Call (.Name "zip" p) [e, e2] [] pos] [] pos2) (wCa (zipLR m) wa) := by
  refine ⟨?_⟩
  intro ro fr σ H env st Q E S hw
  refine toW (pe_listZip hc hg hm hg2 hm2 (pa_W X _) hs hpl hs2) ?_
  refine tWA.mono (ha _ _ _ _ _ _ _ E S hw) fun vs H1 ⟨ro1, xs, st1, e1, S1, r1, x, y, as, bs, hx, hxs, hys, q⟩ => ?_
  subst hx
  obtain ⟨v, u, rfl, r, r'⟩ := two_rep r1
  obtain ⟨a, us, rfl, sa, ra⟩ := lstP_at S1 r hxs
  obtain ⟨b, ws, rfl, sb, rb⟩ := lstP_at S1 r' hys
  refine ⟨a, b, us, ws, rfl, sa, sb, fun H' D ps hD g hD' hl hp => ?_⟩
  exact (end_lst m (ext_grow g) hD (S1.fresh hD).2 (S1.asideG hD hD' g) hD' (zip_reps g S1 hD hD' ra rb hl hp) q).ext e1
end

/-! ### {k: v, ..} -/
abbrev WP := Envp → Sto → (List (PV × PV) → Sto → Prop) → Prop
def wPairs : List (WE × WE) → WP
  | [], _, st, Q => Q [] st
  | (wk, wv) :: r, env, st, Q => wk env st fun x st1 => wv env st1 fun y st2 => wPairs r env st2 fun ps st3 => Q ((x, y) :: ps) st3
inductive DPr (X : Cx) : List (Option Expr) → List Expr → List (WE × WE) → Prop
  | nil : DPr X [] [] []
  | cons {k v ks vs wk wv ws} : DE X k wk → DE X v wv → DPr X ks vs ws → DPr X (some k :: ks) (v :: vs) ((wk, wv) :: ws)
def trsOf (X : Cx) : List (Option Expr) → List Expr → List (TE × TE)
  | some k :: ks, v :: vs => (tW X k, tW X v) :: trsOf X ks vs
  | _, _ => []
def newD (m : Bool) (ks : List Key) (xs : List PV) (st : Sto) (Q : PV → Sto → Prop) : Prop := match m with
  | true => Q (.ref st.length) (st ++ [.dk ks xs])
  | false => Q (.dk ks xs) st
def wDisp (m : Bool) (ws : List (WE × WE)) : WE := fun env st Q => wPairs ws env st fun ps st1 => ∃ ks, kPs (ps.map (·.1)) = some ks ∧ (ks.length ≤ 15 ∧ ks.Nodup) ∧ newD m ks (ps.map (·.2)) st1 Q
section
variable {X : Cx} {ks : List (Option Expr)} {vs : List Expr} {ws : List (WE × WE)} {pos : Pos}
theorem pps_of (d : DPr X ks vs ws) : PPs X pos ks vs (trsOf X ks vs) := by
  induction d with
  | nil => exact pps_nil
  | cons _ _ _ ih => exact pps_cons (pe_W X _) (pe_W X _) ih
theorem pairs_mono (d : DPr X ks vs ws) {σ : L2.St} : ∀ {H : Hp} {Q Q' : List (V × V) → Hp → Prop}, tPairs (trsOf X ks vs) σ H Q → (∀ ps H, Q ps H → Q' ps H) → tPairs (trsOf X ks vs) σ H Q' := by
  induction d with
  | nil => exact fun h hQ => hQ _ _ h
  | cons _ _ _ ih => exact fun h hQ => tW.mono h fun x H1 h1 => tW.mono h1 fun y H2 h2 => ih h2 fun ps H3 h3 => hQ _ _ h3
def PostP (K : PySem.W.Frag) (ro fr : List Addr) (H : Hp) (Q : List (PV × PV) → Sto → Prop) : List (V × V) → Hp → Prop := fun v H' => ∃ ro' x st', Ext ro H ro' H' ∧ RepS K ro' fr H' st' ∧ RepVs K ro' fr H' (x.map (·.1)) (v.map (·.1)) ∧ RepVs K ro' fr H' (x.map (·.2)) (v.map (·.2)) ∧ Q x st'
theorem pairs_read (d : DPr X ks vs ws) : ∀ {ro fr : List Addr} {σ : L2.St} {H : Hp} {env : Envp} {st : Sto} {Q : List (PV × PV) → Sto → Prop}, RepEnv X.K ro fr H env σ → RepS X.K ro fr H st → wPairs ws env st Q → tPairs (trsOf X ks vs) σ H (PostP X.K ro fr H Q) := by
  induction d with
  | nil => exact fun E S q => ⟨_, [], _, .refl, S, .nil, .nil, q⟩
  | cons hk hv d ih =>
    intro ro fr σ H env st Q E S hw
    refine tW.mono (hk _ _ _ _ _ _ _ E S hw) fun x H1 ⟨ro1, px, st1, e1, S1, r1, h1⟩ => ?_
    refine tW.mono (hv _ _ _ _ _ _ _ (E.ext e1) S1 h1) fun y H2 ⟨ro2, py, st2, e2, S2, r2, h2⟩ => ?_
    refine pairs_mono d (ih ((E.ext e1).ext e2) S2 h2) fun ps H3 ⟨ro3, pp, st3, e3, S3, r3, r3', h3⟩ => ?_
    exact ⟨ro3, (px, py) :: pp, st3, (e1.trans e2).trans e3, S3, .cons ((r1.ext e2).ext e3) r3, .cons (r2.ext e3) r3', h3⟩
theorem kPs_at {K : PySem.W.Frag} {ro fr : List Addr} {H : Hp} : ∀ {xs : List PV} {us : List V} {ks : List Key}, RepVs K ro fr H xs us → kPs xs = some ks → us = ks.map kV
  | [], _, ks, r, h => by cases r; simp only [kPs, Option.some.injEq] at h; subst h; rfl
  | x :: xs, _, ks, .cons r r', h => by
    simp only [kPs] at h
    split at h
    · rename_i k ks' h1 h2
      cases h
      rw [kP_at r h1, kPs_at r' h2]; rfl
    · cases h
theorem mergeK_new : ∀ (kvs acc : List (Key × V)), ((acc ++ kvs).map (·.1)).Nodup → mergeK acc kvs = acc ++ kvs
  | [], acc, _ => by simp [mergeK]
  | p :: kvs, acc, h => by
    have e : putK acc p.1 p.2 = acc ++ [p] := by
      unfold putK
      have : (acc.any fun kv => decide (kv.1 = p.1)) = false := by
        rw [List.any_eq_false]
        intro q hq
        have h' := h
        rw [List.map_append, List.nodup_append] at h'
        simp only [decide_eq_true_eq]
        exact h'.2.2 q.1 (List.mem_map_of_mem hq) p.1 (by simp)
      rw [this, if_neg Bool.false_ne_true]
    show mergeK (putK acc p.1 p.2) kvs = _
    rw [e, mergeK_new kvs (acc ++ [p]) (by simpa using h)]
    simp
/-- what was set aside is a dict now -/
theorem end_dk {K : PySem.W.Frag} {ro fr : List Addr} {H : Hp} {st : Sto} {ro1 : List Addr} {H1 : Hp} {D : Addr} {ks : List Key} {xs : List PV} {kvs : List (Key × V)} (m : Bool) {Q : PV → Sto → Prop} (e : Ext ro1 H1 ro H) (hD1 : H1 D = none) (hf : D ∉ fr) (S : RepS K ro (D :: fr) H st) (hD : H D = some (.dK kvs)) (hk : kvs.map (·.1) = ks) (r : RepVs K ro (D :: fr) H xs (kvs.map (·.2))) (q : newD m ks xs st Q) :
    Post K ro1 fr H1 Q (.ref D) H := by
  have hn : D ∉ ro := fun z => S.dis D z List.mem_cons_self
  cases m with
  | false =>
    exact ⟨ro, .dk ks xs, st, e, S.back, .dk ⟨hD, hn, hf⟩ hk (r.less (fun a => List.mem_cons_of_mem _) (fun a => .inl) fun _ _ h => h), q⟩
  | true =>
    have hg : ∀ (n : Nat) a, ro[n]? = some a → (ro ++ [D])[n]? = some a := fun n a h => by
      rw [List.getElem?_append_left (List.getElem?_eq_some_iff.mp h).1]; exact h
    have hm : ∀ a ∈ ro ++ [D], a ∈ ro ∨ a ∈ D :: fr := fun a m => (List.mem_append.mp m).elim .inl fun z => .inr (by rw [List.mem_singleton] at z; subst z; exact List.mem_cons_self)
    have lift : ∀ xs vs, RepVs K ro (D :: fr) H xs vs → RepVs K (ro ++ [D]) fr H xs vs := fun xs vs r => r.less (fun a => List.mem_cons_of_mem _) hm hg
    have q' : Q (.ref st.length) (st ++ [Cell.dk ks xs]) := q
    refine ⟨ro ++ [D], .ref st.length, st ++ [Cell.dk ks xs], ⟨?_, e.old, fun a m => ?_⟩, ⟨by simp [S.len], ?_, ?_, ?_, S.back.frT⟩, .ref (by rw [← S.len]; simp), q'⟩
    · obtain ⟨t, rfl⟩ := e.pre; exact ⟨t ++ [D], by simp⟩
    · rcases List.mem_append.mp m with m | m
      · exact e.new a m
      · rw [List.mem_singleton] at m; subst m; exact .inr hD1
    · rw [List.nodup_append]
      refine ⟨S.nd, by simp, fun a ha b hb => ?_⟩
      rw [List.mem_singleton] at hb; subst hb
      intro z; subst z; exact hn ha
    · intro a m
      rcases List.mem_append.mp m with m | m
      · exact S.back.dis a m
      · rw [List.mem_singleton] at m; subst m; exact hf
    · intro n c a h1 h2
      have hl := S.len
      by_cases hi : n < st.length
      · rw [List.getElem?_append_left hi] at h1
        rw [List.getElem?_append_left (by omega)] at h2
        exact (S.at_ n c a h1 h2).map rfl lift
      · rw [List.getElem?_append_right (by omega)] at h1 h2
        have e1 : n - st.length = 0 := by
          have := (List.getElem?_eq_some_iff.mp h1).1
          simp at this; omega
        have e2 : n - ro.length = 0 := by omega
        rw [e1] at h1; rw [e2] at h2
        simp at h1 h2; subst h1; subst h2
        exact ⟨kvs, hD, hk, lift _ _ r⟩
theorem DPr.len (d : DPr X ks vs ws) : ks.length = vs.length ∧ ks.all (·.isSome) = true := by
  induction d with
  | nil => exact ⟨rfl, rfl⟩
  | cons _ _ _ ih => exact ⟨by simp [ih.1], by simpa using ih.2⟩
theorem zip_kvs : ∀ {ks : List Key} {us : List (V × V)}, us.map (·.1) = ks.map kV → ∃ kvs : List (Key × V), us = kvs.map (fun kv => (kV kv.1, kv.2)) ∧ kvs.map (·.1) = ks ∧ kvs.map (·.2) = us.map (·.2)
  | [], [], _ => ⟨[], rfl, rfl, rfl⟩
  | k :: ks, u :: us, h => by
    simp only [List.map_cons, List.cons.injEq] at h
    obtain ⟨kvs, h1, h2, h3⟩ := zip_kvs h.2
    refine ⟨(k, u.2) :: kvs, ?_, by simp [h2], by simp [h3]⟩
    rw [List.map_cons, ← h1, ← h.1]
  | [], _ :: _, h => by simp at h
  | _ :: _, [], h => by simp at h
theorem d_disp (m : Bool) (d : DPr X ks vs ws) (h0 : ks ≠ [] := by simp) (h15 : ks.length ≤ 15 := by decide) : DE X (.Dict ks vs pos) (wDisp m ws) := by
  refine ⟨?_⟩
  intro ro fr σ H env st Q E S hw
  refine toW (pe_disp (pps_of d) d.len.2 d.len.1 h0 h15) ?_
  intro p hp
  have frs : ∀ a ∈ p :: fr, a ∈ fr ∨ H a = none := fun a m => (List.mem_cons.mp m).elim (fun z => .inr (z ▸ hp)) .inl
  have E1 : RepEnv X.K ro (p :: fr) (upd H p (.dK [])) env σ := (E.more frs).ext (ext_new hp)
  refine pairs_mono d (pairs_read d E1 (S.aside hp) hw) fun us H2 ⟨ro2, ps, st2, e2, S2, r1, r2, kk, hk, ⟨h15', hn⟩, q⟩ => ?_
  have hH2 : H2 p = some (.dK []) := e2.old _ _ upd_same (fun z => (S.fresh hp).1 z)
  obtain ⟨kvs, g1, g2, g3⟩ := zip_kvs (kPs_at r1 hk)
  have hlen : kvs.length ≤ 15 := by rw [← List.length_map (f := (·.1)), g2]; exact h15'
  refine ⟨hH2, kvs, g1, hlen, ?_⟩
  rw [mergeK_new kvs [] (by simpa [g2] using hn)]
  refine end_dk m (ext_own ((ext_new (o := .dK []) hp).trans e2) hp) hp (S.fresh hp).2 (S2.own List.mem_cons_self) upd_same (by simpa using g2) ?_ q
  rw [List.nil_append, g3]
  exact r2.own List.mem_cons_self
theorem d_dict0 (m : Bool) : DE X (.Dict [] [] pos) (fun _ st Q => newD m [] [] st Q) := by
  refine ⟨?_⟩
  intro ro fr σ H env st Q E S hw
  refine toW pe_dnewK fun p hp => ?_
  exact end_dk m (ext_own .refl hp) hp (S.fresh hp).2 (S.aside hp) upd_same rfl .nil hw
end

/-! ### a, b = x, y with two local names -/
def sPar (i j : Nat) (wa : WA) : WS := fun D env st => wa env st fun xs st1 => ∃ x y, xs = [x, y] ∧ D.nx ((env.set i (some x)).set j (some y)) st1
section
variable {X : Cx}
theorem ds_par {i j : Nat} {x y : Str} {a b : Expr} {wa : WA} {px py pt pos : Pos} {kt k2 pt2} (hc : X.calm = true) (hN : X.N.Nodup) (hi : X.N[i]? = some x) (hj : X.N[j]? = some y) (hij : i ≠ j)
    (hx : X.env.scope.names.lookup x = some .local) (hy : X.env.scope.names.lookup y = some .local) (ha : DA X [a, b] wa)
    (hw : swappedStores [.Tuple [.Name x px, .Name y py] kt pt] (.Tuple [a, b] k2 pt2) X.env = pure (some [x, y]))
    (hs : swapsWithSole [.Tuple [.Name x px, .Name y py] kt pt] (.Tuple [a, b] k2 pt2) pos.line X.env = pure false := by rfl) :
    DS X (.Assign [.Tuple [.Name x px, .Name y py] kt pt] (.Tuple [a, b] k2 pt2) pos) (sPar i j wa) := by
  refine ⟨?_⟩
  intro ro fr σ H env st D E S h
  refine toWS (ps_par hc hN hi hj hij hx hy (pa_W X _) hw hs) ?_
  refine tWA.mono (ha _ _ _ _ _ _ _ E S h) fun vs H1 ⟨ro1, xs, st1, e1, S1, r1, x, y, hx, q⟩ => ?_
  subst hx
  obtain ⟨v, u, rfl, r, r'⟩ := two_rep r1
  exact ⟨v, u, rfl, ro1, _, st1, e1, S1, ((E.ext e1).set r).set r', q⟩
end
end Pv

/-! Pv11: words for derivations, who is called, the law's head. -/
namespace Pv
open PySem PySem.Spec L2

section
variable {X : Cx}
theorem dv (i : Nat) {x : Str} {pos : Pos} (hN : X.N[i]? = some x := by rfl) (hv : Vis X.env.scope x := by first | exact Or.inl rfl | exact Or.inr (Or.inl rfl) | exact Or.inr (Or.inr rfl)) (hd : (x == ("__debug__" : Str)) = false := by decide +kernel)
    (hcd : (x == ("__classdict__" : Str)) = false := by decide +kernel) : DE X (.Name x pos) (wVar i) := d_var hN hv hd hcd
theorem lookup_rel {E : Env} {x : Str} {k : NameKind} : ∀ {names : List (Str × NameKind)}, names.lookup x = some k →
    (names.map fun (n, k) => if (k == NameKind.free && E.scope.kind == .function && E.kindOf n == some .cell) then (n, NameKind.cell) else (n, k)).lookup x = some k ∨
      (k = .free ∧ (names.map fun (n, k) => if (k == NameKind.free && E.scope.kind == .function && E.kindOf n == some .cell) then (n, NameKind.cell) else (n, k)).lookup x = some .cell)
  | [], h => by simp at h
  | (n, k') :: r, h => by
    rw [List.lookup_cons] at h
    rw [List.map_cons]
    by_cases e : (x == n) = true
    · rw [e] at h
      cases h
      by_cases c : (k == NameKind.free && E.scope.kind == .function && E.kindOf n == some .cell) = true
      · refine .inr ⟨?_, ?_⟩
        · simp only [Bool.and_eq_true] at c
          have c1 := c.1.1
          revert c1
          cases k <;> first | (intro _; rfl) | (intro c1; exact absurd c1 (by decide))
        · simp only [c, if_true, List.lookup_cons, e]
      · simp only [c, if_false, List.lookup_cons, e, Bool.false_eq_true]; exact .inl trivial
    · simp only [Bool.not_eq_true] at e
      rw [e] at h
      have ih := lookup_rel (E := E) (names := r) h
      by_cases c : (k' == NameKind.free && E.scope.kind == .function && E.kindOf n == some .cell) = true
      · simp only [c, if_true, List.lookup_cons, e]; exact ih
      · simp only [c, if_false, List.lookup_cons, e, Bool.false_eq_true]; exact ih
section
variable {s : Shared} {H : Hp} {sc scope : Scope} {cl : List (Str × Addr)} {C : Addr} {E : Env} {fp : List Addr} {x : Str}
theorem vis_blk (h : Vis sc x) : Vis (X.blk s H sc (compEnvC sc cl C E) fp).env.scope x := by
  rcases h with h | h | h
  · rcases lookup_rel (E := E) h with q | ⟨q, _⟩
    · exact .inl q
    · cases q
  · rcases lookup_rel (E := E) h with q | ⟨q, _⟩
    · exact .inr (.inl q)
    · cases q
  · rcases lookup_rel (E := E) h with q | ⟨_, q⟩
    · exact .inr (.inr q)
    · exact .inr (.inl q)
theorem loc_blk (h : Loc sc x) : Loc (X.blk s H sc (compEnvC sc cl C E) fp).env.scope x := by
  rcases h with h | h
  · rcases lookup_rel (E := E) h with q | ⟨q, _⟩
    · exact .inl q
    · cases q
  · rcases lookup_rel (E := E) h with q | ⟨q, _⟩
    · exact .inr q
    · cases q
theorem fl_blk (h : sc.names.lookup x = some .local) : (X.blk s H sc (compEnvC sc cl C E) fp).fn x = true ∨ (X.blk s H sc (compEnvC sc cl C E) fp).env.scope.names.lookup x = some .local := by
  rcases lookup_rel (E := E) h with q | ⟨q, _⟩
  · exact .inr q
  · cases q
theorem fc_blk (h : sc.names.lookup x = some .cell) : (X.blk s H sc (compEnvC sc cl C E) fp).fn x = true ∨ (X.blk s H sc (compEnvC sc cl C E) fp).env.scope.names.lookup x = some .local := .inl (by
  show (sc.names.lookup x == some .cell) = true
  rw [h]; rfl)
theorem gl_blk (h : sc.names.lookup x = some .globalImplicit) : Gl (X.blk s H sc (compEnvC sc cl C E) fp) x := by
  rcases lookup_rel (E := E) h with q | ⟨q, _⟩
  · exact q
  · cases q
theorem blk_in {N : List Str} {own : List (Str × Nat)} (h : blkC N sc scope own = true) : BlkOk N (X.blk s H sc (compEnvC sc cl C E) fp).env.scope scope own := by
  have b := blkOk_by h
  refine ⟨b.kind, b.uniq, b.ix, fun y hy e => ?_, b.own⟩
  rcases b.free y hy e with h | h
  · rcases lookup_rel (E := E) h with q | ⟨q, _⟩
    · exact .inl q
    · cases q
  · rcases lookup_rel (E := E) h with q | ⟨_, q⟩
    · exact .inr q
    · exact .inl q
end
theorem xgb {k : Nat} {s : Shared} {H : Hp} {scope : Scope} {env : Env} {fp : List Addr} (G : XG k X) : XG k (X.blk s H scope env fp) := ⟨G.room, G.gd, G.calm⟩
end
/-- x is a def of the module that keeps S, where level k is left -/
structure Callee (P : Program) (w : World) (K : PySem.W.Frag) (mg : Str → Option Value) (base : Heap) (k : Nat) (x : Str) (n : Nat) (S : Spc) : Prop where
  ex : ∃ f fd ps, FnG P w K mg base k f fd ps (spOf K n S) ∧ mg x = some (.ref f) ∧ PySem.W.keepIn K (.ref f) = true ∧ Binds K fd ps []
theorem Callee.mono {P : Program} {w : World} {K : PySem.W.Frag} {mg : Str → Option Value} {base : Heap} {j k : Nat} {x : Str} {n : Nat} {S S' : Spc} (C : Callee P w K mg base j x n S) (h : j ≤ k) (hS : ∀ xs st Q, xs.length = n → S' xs st Q → S xs st Q) : Callee P w K mg base k x n S' := by
  obtain ⟨f, fd, ps, F, a, b, c⟩ := C.ex
  exact ⟨f, fd, ps, (F.mono h).imp hS, a, b, c⟩
theorem Callee.up {P : Program} {w : World} {K : PySem.W.Frag} {mg : Str → Option Value} {base : Heap} {j k : Nat} {x : Str} {n : Nat} {S : Spc} (C : Callee P w K mg base j x n S) (h : j ≤ k := by first | decide | omega) : Callee P w K mg base k x n S := C.mono h fun _ _ _ _ h => h
section
variable {X : Cx} {k n : Nat} {S : Spc} {x : Str} {p pos : Pos} {e : Expr} {es : List Expr} {wa : WA}
theorem d_callC (C : Callee X.prog X.w X.K X.mg X.base k x n S) (hr : XG k X) (ha : DA X (e :: es) wa) (hg : Gl X x := by rfl) (hdb : (x == ("__debug__" : Str)) = false := by decide +kernel) (he : starEach (e :: es) X.env = (false, eval e X.env) :: starEach es X.env := by exact star_cons (by rfl)) (hpl : (backTo pos (starEach es X.env)).any (·.1) = false := by exact star_plain (by rfl)) :
    DE X (.Call (.Name x p) (e :: es) [] pos) (wCall n S wa) := by
  obtain ⟨f, fd, ps, F, hm, hk, hb⟩ := C.ex
  exact d_call F hr hg hm hk hb ha hdb he hpl
end

/-! ### the law's head, where no guard of a repr stands -/
theorem law_callG {P : Program} {w : World} {K : PySem.W.Frag} {mg mb : Str → Option Value} {k : Nat} {fa a : Addr} {fd : FuncData} {x : Str} {sp : Sp} {s₁ : Shared} {vs : List Value} {ns : List Int}
    (KX : K.In s₁.heap) (hns : s₁.heap.Ns mainGlobals mg) (hb : s₁.heap.Ns builtinsNs mb) (hbb : ∀ x : Str, x ≠ "__name__" → mb x = bootBuiltins x) (hlim : s₁.heap.NoLimit) (hg : s₁.gens = #[])
    (ha : s₁.heap.get? a = some { cls := .type "list", data := .seq vs.toArray }) (hi : PyProof.Rows.IntsAre vs ns) (hl : ns.length ≤ sizeLine) (hr : Room k callerA)
    (F : ∀ base : Heap, K.In base → base.Ns mainGlobals mg → FnG P w K mg base k fa fd [x] sp) (hbind : ∀ (s : Shared) (u : Value), BindsTo s fd ⟨[u], []⟩ [(x, u)])
    (hsp : ∀ H : Hp, Only H → SqL K H a (ns.map V.int) → sp [.ref a] H (fun v _ => v = .bl true) E0) :
    codeAny (model P w) callerA (.call (.ref fa) ⟨[.ref a], []⟩) (fun r s' => r = .ok (.ret (.bool true)) ∧ OldK s₁.heap s'.heap ∧ s'.os = s₁.os ∧ PyProof.Rows.AllBare s'.gens) s₁ := by
  have rv := vals_ints hi
  have lenV := hi.length
  have core : ∀ H : Hp, Only H → SqL K H a (ns.map V.int) → HOk P w H s₁.heap → (∀ b, H b ≠ none → b = a) → (H a ≠ none → K.lookup a = none) →
      codeAny (model P w) callerA (.call (.ref fa) ⟨[.ref a], []⟩) (fun r s' => r = .ok (.ret (.bool true)) ∧ OldK s₁.heap s'.heap ∧ s'.os = s₁.os ∧ PyProof.Rows.AllBare s'.gens) s₁ := by
    intro H hO hS hok hA hK
    have base_of : ∀ {b : Addr} {o : Obj}, s₁.heap.get? b = some o → H b = none → (hidT s₁.heap H).get? b = some o := fun e n => hidT_get e n
    have noA : ∀ {b : Addr} {o : Obj} {es : Array DictEntry} {ep : Nat}, s₁.heap.get? b = some o → o.data = .dict es ep → H b = none := fun {b o es ep} e d => by
      cases q : H b with
      | none => rfl
      | some u =>
        have e' : b = a := hA b (by rw [q]; simp)
        subst e'
        rw [ha] at e; cases e
        have d' : Data.seq vs.toArray _ = Data.dict es ep := d
        cases d'
    have nsK : ∀ {b : Addr} {m : Str → Option Value}, s₁.heap.Ns b m → (hidT s₁.heap H).Ns b m := fun {b m} ⟨o, es, ep, e, d, r⟩ => ⟨o, es, ep, base_of e (noA e d), d, r⟩
    have hKb : K.In (hidT s₁.heap H) := fun b o e => base_of (KX b o e) (by
      cases q : H b with
      | none => rfl
      | some u =>
        have e' : b = a := hA b (by rw [q]; simp)
        subst e'
        rw [hK (by rw [q]; simp)] at e; cases e)
    have hM : Mod K mg (hidT s₁.heap H) := ⟨hKb, nsK hns, ⟨mb, nsK hb, hbb⟩, let ⟨mc, h1, h2⟩ := hlim; ⟨mc, nsK h1, h2⟩⟩
    have e0 : Env0 P w K mg (hidT s₁.heap H) callerA [] s₁ H := ⟨rfl, hM, fun b o e => of_hidT e, Nat.le_of_eq (hidT_size _ _), trivial, fun b hb => absurd (show b ∈ ([] : List Addr) from hb) (by simp), hok, .of_eq hg⟩
    refine codeAny_mono ((F _ hKb (nsK hns)).run callerA [] s₁ H ⟨[.ref a], []⟩ [.ref a] [.ref a] _ hr rfl e0 (hbind s₁ (.ref a)) (.cons rfl .nil) (hsp H hO hS)) fun r s' h => ?_
    cases r with
    | error e => exact False.elim h
    | ok fl =>
      cases fl with
      | next => exact False.elim h
      | brk => exact False.elim h
      | cont => exact False.elim h
      | ret u =>
        obtain ⟨v, H', os, bare, un, hok', r', q⟩ := h
        have q' : v = .bl true := q
        subst q'
        obtain rfl : u = Value.bool true := r'
        refine ⟨rfl, OldK.of_keep fun b o e => ?_, os, bare⟩
        cases q : H b with
        | none => exact un.keep b o e q (by intro z; exact absurd (show b ∈ ([] : List Addr) from z) (by simp)) (by simp)
        | some u =>
          rcases hO b with z | ⟨ob, xs, z⟩
          · rw [q] at z; cases z
          · have z2 := un.frzs b ob _ z
            obtain ⟨e1, _⟩ := hok b _ z
            obtain ⟨e2, _⟩ := hok' b _ z2
            rw [e] at e1; cases e1
            exact e2
  cases hk : K.lookup a with
  | some o =>
    have e := KX a o hk
    rw [ha] at e
    cases e
    refine core (fun _ => none) (fun _ => .inl rfl) (.inr ⟨_, vs.toArray, _, hk, rfl, rfl, rfl, by rw [List.size_toArray, lenV]; exact hl, by simpa using rv⟩) (fun b u z => by have z' : (none : Option HO) = some u := z; cases z') (fun b z => absurd rfl z) fun z => absurd rfl z
  | none =>
    refine core (fun b => if b = a then some (.frz { cls := .type "list", data := .seq vs.toArray } (.lst (ns.map V.int))) else none) (fun b => ?_) (.inl (.inr ⟨{ cls := .type "list", data := .seq vs.toArray }, if_pos rfl⟩)) (fun b u z => ?_) (fun b z => ?_) fun _ => hk
    · by_cases hb : b = a
      · exact .inr ⟨_, _, if_pos hb⟩
      · exact .inl (if_neg hb)
    · by_cases hb : b = a
      · have z' := (if_pos hb).symm.trans z
        cases z'
        subst hb
        exact ⟨ha, by rw [List.length_map]; exact hl, vs, _, rv, ha⟩
      · have z' := (if_neg hb).symm.trans z
        cases z'
    · by_cases hb : b = a
      · exact hb
      · exact absurd (if_neg hb) z
/-- what a law is asked -/
def lawS : Spc := fun xs st Q => ∃ ns : List Int, xs = [.fls (pInts ns)] ∧ ns.length ≤ 63 ∧ st = [] ∧ ∀ st', Q (.bl true) st'
theorem walk_ofG {l : PySem.W.OpenLaw} {k : Nat} {q : Program} {loose : List Str} {XP : (Str → Option Value) → Heap → Prop} {YP : World → Heap → Prop} {d : DefRec} {K : Params → PySem.W.Frag} {x : Str}
    (hn : l.most = some 63) (hdf : d.params.defaults = []) (hr : Room k callerA)
    (hY : ∀ (w : World) (h : Heap), YP w h → (K w.params).In h)
    (F : ∀ (w : World) (mg : Str → Option Value) (fa : Addr) (h : Heap), (K w.params).In h → h.Ns mainGlobals mg → mg d.name = some (.ref fa) →
      ∃ fd : FuncData, (∀ (s : Shared) (u : Value), BindsTo s fd ⟨[u], []⟩ [(x, u)]) ∧
        ∀ base : Heap, (K w.params).In base → base.Ns mainGlobals mg → FnG l.prog w (K w.params) mg base k fa fd [x] (spOf (K w.params) 1 lawS)) :
    PySem.W.WalkO q loose XP YP l.row.toRowW d [] (fun f vs => PySem.call f vs) := by
  refine Att.attach_call hn hdf fun w s₀ s₁ mg mb fa o pm cd doc a vs ns G Y ho hd hcd hmg hobj hints hlen hg => ?_
  have KX := hY w _ Y
  obtain ⟨fd, hb, hF⟩ := F w mg fa _ KX G.T.g hmg
  refine law_callG KX G.T.g G.T.b G.T.builtins G.T.nolimit hg hobj hints (Nat.le_trans hlen (by decide)) hr hF hb fun H hO hS => ?_
  refine ⟨[], [], [.fls (pInts ns)], [], fun v _ => v = .bl true, .cons (.fls ?_ (ints_reps ns)) .nil, ⟨rfl, by simp, by simp, by simp, by simp⟩, rfl, ⟨ns, rfl, hlen, rfl, fun _ => rfl⟩, fun v H' ⟨ro', y, st', _, _, r, e⟩ => ?_⟩
  · rcases hS with h | h
    · exact .inl ⟨h, by simp, by simp⟩
    · exact .inr (.inr h)
  · subst e; cases r; rfl
end Pv

/-! Pv12: names of the module, names counted on, lists from behind. -/
namespace Pv
open PySem PySem.Spec L2
/-- a text, a number of the module -/
def IsStr (mg : Str → Option Value) (x s : Str) : Prop := ∃ u, mg x = some u ∧ RelV (.str s) u
def IsInt (mg : Str → Option Value) (x : Str) (i : Int) : Prop := ∃ u, mg x = some u ∧ RelV (.int i) u
section
variable {X : Cx} {e : Expr} {w : WE} {pos : Pos}
theorem d_gStr {x s : Str} (hm : IsStr X.mg x s) (hg : Gl X x) (hd : (x == ("__debug__" : Str)) = false := by decide +kernel) : DE X (.Name x pos) (wC (.str s)) := by
  obtain ⟨u, h, r⟩ := hm
  exact d_glob hg h r (fun _ _ _ => .str s) hd
theorem d_gInt {x : Str} {i : Int} (hm : IsInt X.mg x i) (hg : Gl X x) (hd : (x == ("__debug__" : Str)) = false := by decide +kernel) : DE X (.Name x pos) (wC (.int i)) := by
  obtain ⟨u, h, r⟩ := hm
  exact d_glob hg h r (fun _ _ _ => .int i) hd
/-- a marked statement -/
abbrev sTag (_ : Nat) (w : WS) : WS := w
def iaddR : OpP := fun x y st Q => ∃ i j, x = .int i ∧ y = .int j ∧ Q (.int (i + j)) st
theorem ds_aug {i : Nat} {x : Str} {r : OpP} {op : Operator} {f : Int → Int → Int} {pos' : Pos} (hN : X.N.Nodup) (hi : X.N[i]? = some x) (hx : Loc X.env.scope x) (he : DE X e w)
    (ho : PIp X op (ipI f)) (hr : ∀ x y st Q, r x y st Q → ∃ i j, x = .int i ∧ y = .int j ∧ Q (.int (f i j)) st)
    (hf : X.fn x = true ∨ X.env.scope.names.lookup x = some .local := by first | exact .inl rfl | exact .inr rfl | assumption) :
    DS X (.AugAssign (.Name x pos') op e pos) (sAsg (wOp r (wVar i) w) (gNm i)) := by
  refine ⟨?_⟩
  intro ro fr σ H env sto D E S hw
  obtain ⟨y, hy, hw⟩ := hw
  obtain ⟨v, h1, rv⟩ := E.2 i y hy
  refine toWS (ps_aug hN hi hx (pe_W X e) ho hf) ⟨v, h1, ?_⟩
  refine tW.mono (he _ _ _ _ _ _ _ E S hw) fun u H1 ⟨ro1, z, st1, e1, S1, r1, q⟩ => ?_
  obtain ⟨a, b, ea, eb, q2⟩ := hr _ _ _ _ q
  subst ea eb
  cases rv
  cases r1
  exact ⟨a, b, rfl, rfl, ro1, _, st1, e1, S1, (E.ext e1).set (.int _), q2⟩
theorem iadd_int {x y : PV} {st : Sto} {Q : PV → Sto → Prop} (h : iaddR x y st Q) : ∃ i j, x = .int i ∧ y = .int j ∧ Q (.int (i + j)) st := h
theorem isub_int {x y : PV} {st : Sto} {Q : PV → Sto → Prop} (h : subR x y st Q) : ∃ i j, x = .int i ∧ y = .int j ∧ Q (.int (i - j)) st := h
/-- a list taken apart -/
def gUl (n : Nat) (gs : List PV → Envp → Sto → (Envp → Sto → Prop) → Prop) : WG := fun x env st Q => ∃ xs, lstP st x = some xs ∧ xs.length = n ∧ gs xs env st Q
theorem dg_ul {es : List Expr} {sl : List Nat} {gs} {k n : Nat} (hc : X.calm = true) (h : DGs X es sl gs) (hn : (assignEach es X.env).length = n := by exact asg_len.trans (by rfl)) (hst : (assignEach es X.env).findIdx? (·.1) = none := by exact asg_find (by rfl)) : DG X (.Tuple es k pos) sl (gUl n gs) := by
  refine ⟨?_⟩
  intro ro fr σ H env st x v Q E S r ⟨xs, hx, hl, q⟩
  obtain ⟨a, vs, rfl, hs, rs⟩ := lstP_at S r hx
  exact toWG (pg_lst hc (pgs_W X es) hn hst) ⟨a, vs, rfl, hs, by rw [← rs.length]; exact hl, h _ _ _ _ _ _ _ _ _ E S rs q⟩
/-- from behind -/
def revR (m : Bool) : CaP := fun xs st Q => match xs with
  | [x] => ∃ ys, lstP st x = some ys ∧ newL m ys.reverse st Q
  | _ => False
theorem rev_reps {K : PySem.W.Frag} {ro fr : List Addr} {H : Hp} : ∀ {xs : List PV} {vs : List V}, RepVs K ro fr H xs vs → RepVs K ro fr H xs.reverse vs.reverse
  | [], _, h => by cases h; exact .nil
  | x :: xs, _, h => by
    cases h with
    | cons a b => rw [List.reverse_cons, List.reverse_cons]; exact (rev_reps b).append (.cons a .nil)
theorem d_rev (m : Bool) {k : Nat} {p1 p2 p3 : Pos} (he : DE X e w) : DE X (.Subscript e (.Slice none none (some (.UnaryOp .USub (.Constant (.int 1) k p1) p2)) p3) pos) (wCa (revR m) (wCons w wNil)) := by
  refine ⟨?_⟩
  intro ro fr σ H env st Q E S hw
  refine toW (pe_revL (pe_W X e)) ?_
  refine tW.mono (he _ _ _ _ _ _ _ E S hw) fun v H1 ⟨ro1, x, st1, e1, S1, r1, ys, hy, q⟩ => ?_
  obtain ⟨a, vs, rfl, hs, rs⟩ := lstP_at S1 r1 hy
  exact ⟨a, vs, rfl, hs, fun p hp => (new_lst m S1 (rev_reps rs) hp q).ext e1⟩
end
end Pv

/-! PvTm: the length of what repr shows; terms. -/
namespace Pv
open PySem PySem.Spec L2

/-! ### how long is what repr shows -/
mutual
def tl : PyData → Nat
  | .none => 4
  | .bool _ => 5
  | .int i => (toString i).length
  | .str x => 10 * x.length + 2
  | .list xs | .tuple xs => 3 + tls xs
  | .dict _ => 0
def tls : List PyData → Nat
  | [] => 0
  | x :: xs => tl x + 2 + tls xs
end
theorem textFrom_le : ∀ (ts : List Str) (k : Nat) (acc : Str), (textFrom k acc ts).length ≤ acc.length + (ts.map fun t => t.length + 2).sum
  | [], k, acc => Nat.le_refl _
  | t :: r, k, acc => by
    have ih := textFrom_le r (k + 1) (acc ++ (if k > 0 then ", " else "" : String) ++ t)
    have e : (acc ++ (if k > 0 then ", " else "" : String) ++ t).length = acc.length + (if k > 0 then 2 else 0) + t.length := by
      rw [strLen_append, strLen_append]
      congr 1
      congr 1
      split <;> rfl
    have e2 : (if k > 0 then 2 else 0 : Nat) ≤ 2 := by split <;> omega
    have e3 : (textFrom k acc (t :: r)).length = (textFrom (k + 1) (acc ++ (if k > 0 then ", " else "" : String) ++ t) r).length := rfl
    rw [e] at ih
    rw [List.map_cons, List.sum_cons, e3]
    omega
theorem piled_sum : ∀ ts : List Str, piled ts = (ts.map fun t => t.length + 2).sum
  | [] => rfl
  | t :: r => by
    rw [List.map_cons, List.sum_cons, ← piled_sum r]
    simp [piled]
theorem tupleText_le (ts : List Str) : (tupleText ts).length ≤ 3 + (ts.map fun t => t.length + 2).sum := by
  unfold tupleText
  rw [strLen_append, strLen_append]
  have e1 : (("(" : Str)).length = 1 := rfl
  have e2 : ((if ts.length == 1 then ",)" else ")" : String) : Str).length ≤ 2 := by split <;> decide
  by_cases h : ts = []
  · subst h
    have e3 : (Str.join ", " ([] : List Str)).length = 0 := rfl
    omega
  · have := join_length_add ts h
    rw [piled_sum] at this
    omega
mutual
theorem shown_le : ∀ d : PyData, d.canLay0 = true → d.shown.length ≤ tl d
  | .none, _ => by decide
  | .bool b, _ => by cases b <;> decide
  | .int i, _ => by simp only [PyData.shown, tl, ofString_length]; exact Nat.le_refl _
  | .str x, h => by
    simp only [PyData.shown, tl]
    refine StrLaws.reprText_len x fun c hc => ?_
    have h2 : PyData.strOk x = true := h
    have h3 := Array.all_eq_true_iff_forall_mem.mp h2 c (Array.mem_toList_iff.mp hc)
    have h4 : c < 0x110000 := by simpa using h3
    have e : (16 : Nat) ^ 8 = 4294967296 := by decide
    omega
  | .list xs, h => by
    simp only [PyData.shown, tl]
    have h1 := shownAll_le xs (by simpa only [PyData.canLay0] using h)
    have h2 := textFrom_le (PyData.shownAll xs) 0 "["
    unfold listText
    rw [strLen_append]
    have e1 : (("[" : String) : Str).length = 1 := rfl
    have e2 : (("]" : String) : Str).length = 1 := rfl
    omega
  | .tuple xs, h => by
    simp only [PyData.shown, tl]
    have h1 := shownAll_le xs (by simpa only [PyData.canLay0] using h)
    have h2 := tupleText_le (PyData.shownAll xs)
    omega
  | .dict _, h => by simp [PyData.canLay0] at h
theorem shownAll_le : ∀ ds : List PyData, PyData.canLayAll0 ds = true → ((PyData.shownAll ds).map fun t => t.length + 2).sum ≤ tls ds
  | [], _ => Nat.le_refl _
  | d :: ds, h => by
    simp only [PyData.canLayAll0, Bool.and_eq_true] at h
    have h1 := shown_le d h.1
    have h2 := shownAll_le ds h.2
    simp only [PyData.shownAll, List.map_cons, List.sum_cons, tls]
    omega
end

/-! ### terms -/
inductive Trm where
  | u (s : Str) | f (s : Str) (as : List Trm)
mutual
def Trm.p : Trm → PV
  | .u s => .str s
  | .f s as => .tup (.str s :: Trm.ps as)
def Trm.ps : List Trm → List PV
  | [] => []
  | a :: as => a.p :: Trm.ps as
end
def Trm.args : Trm → List Trm
  | .u _ => []
  | .f _ as => as
theorem Trm.ps_map : ∀ as : List Trm, Trm.ps as = as.map Trm.p
  | [] => rfl
  | a :: as => by rw [Trm.ps, Trm.ps_map as]; rfl
def GoodS (s : Str) : Prop := 1 ≤ s.length ∧ s.length ≤ 6 ∧ PyData.strOk s = true
def Trm.ok : Nat → Trm → Prop
  | _, .u s => GoodS s
  | 0, .f _ _ => False
  | d + 1, .f s as => GoodS s ∧ as.length ≤ 3 ∧ ∀ a ∈ as, Trm.ok d a
theorem Trm.ok_u {d : Nat} {s : Str} : Trm.ok d (.u s) ↔ GoodS s := by cases d <;> exact Iff.rfl
theorem Trm.ok_up : ∀ {d e : Nat} {t : Trm}, Trm.ok d t → d ≤ e → Trm.ok e t
  | d, e, .u s, h, _ => Trm.ok_u.mpr (Trm.ok_u.mp h)
  | 0, _, .f _ _, h, _ => h.elim
  | d + 1, 0, .f s as, h, hl => by omega
  | d + 1, e + 1, .f s as, h, hl => ⟨h.1, h.2.1, fun a m => Trm.ok_up (h.2.2 a m) (by omega)⟩
theorem Trm.ok_arg {d : Nat} {t a : Trm} (h : Trm.ok d t) (m : a ∈ t.args) : ∃ e, d = e + 1 ∧ Trm.ok e a := by
  cases t with
  | u s => simp [Trm.args] at m
  | f s as =>
    cases d with
    | zero => exact h.elim
    | succ d => exact ⟨d, rfl, h.2.2 a m⟩
mutual
theorem Trm.isD : ∀ t : Trm, Pv.isD t.p = true
  | .u s => rfl
  | .f s as => by simp only [Trm.p, Pv.isD, Pv.isDs, Bool.true_and]; exact Trm.isDs as
theorem Trm.isDs : ∀ as : List Trm, Pv.isDs (Trm.ps as) = true
  | [] => rfl
  | a :: as => by simp only [Trm.ps, Pv.isDs, Trm.isD a, Trm.isDs as, Bool.and_self]
end
theorem Trm.datS (st : Sto) (t : Trm) : Pv.datS st t.p = some (dat t.p) := by
  cases t with
  | u s => rfl
  | f s as =>
    have := Trm.isD (.f s as)
    simp only [Trm.p] at this ⊢
    simp only [Pv.datS, this, if_true]
theorem dats_map : ∀ xs : List PV, dats xs = xs.map dat
  | [] => rfl
  | x :: xs => by rw [dats, dats_map xs]; rfl
theorem canLayAll_map {α : Type} (f : α → PyData) : ∀ xs : List α, (∀ x ∈ xs, (f x).canLay0 = true) → PyData.canLayAll0 (xs.map f) = true
  | [], _ => rfl
  | x :: xs, h => by
    rw [List.map_cons, PyData.canLayAll0, h x List.mem_cons_self, canLayAll_map f xs fun y m => h y (List.mem_cons_of_mem _ m)]; rfl
theorem depthAll_map {α : Type} (f : α → PyData) (n : Nat) : ∀ xs : List α, (∀ x ∈ xs, (f x).depth ≤ n) → PyData.depthAll (xs.map f) ≤ n
  | [], _ => Nat.zero_le _
  | x :: xs, h => by
    rw [List.map_cons, PyData.depthAll]
    exact Nat.max_le.mpr ⟨h x List.mem_cons_self, depthAll_map f n xs fun y m => h y (List.mem_cons_of_mem _ m)⟩
theorem showableAll_map {α : Type} (f : α → PyData) : ∀ xs : List α, (∀ x ∈ xs, (f x).showable = true) → PyData.showableAll (xs.map f) = true
  | [], _ => rfl
  | x :: xs, h => by
    rw [List.map_cons, PyData.showableAll, h x List.mem_cons_self, showableAll_map f xs fun y m => h y (List.mem_cons_of_mem _ m)]; rfl
theorem tls_map {α : Type} (f : α → PyData) (n : Nat) : ∀ xs : List α, (∀ x ∈ xs, tl (f x) ≤ n) → tls (xs.map f) ≤ (n + 2) * xs.length
  | [], _ => Nat.zero_le _
  | x :: xs, h => by
    rw [List.map_cons, tls]
    have h1 := h x List.mem_cons_self
    have h2 := tls_map f n xs fun y m => h y (List.mem_cons_of_mem _ m)
    rw [List.length_cons, Nat.mul_add]
    omega
/-- data that is laid, shown, and no deeper than d, its text no longer than n -/
structure DOk (d n : Nat) (x : PyData) : Prop where
  lay : x.canLay0 = true
  deep : x.depth ≤ d
  show_ : x.showable = true
  len : tl x ≤ n
theorem DOk.mono {d e n m : Nat} {x : PyData} (h : DOk d n x) (h1 : d ≤ e) (h2 : n ≤ m) : DOk e m x := ⟨h.lay, Nat.le_trans h.deep h1, h.show_, Nat.le_trans h.len h2⟩
theorem DOk.tup {d n k : Nat} {xs : List PyData} (h : ∀ x ∈ xs, DOk d n x) (hk : xs.length ≤ k) : DOk (d + 1) (3 + (n + 2) * k) (.tuple xs) := by
  refine ⟨?_, ?_, ?_, ?_⟩
  · have := canLayAll_map id xs fun x m => (h x m).lay
    simpa only [PyData.canLay0, List.map_id] using this
  · have := depthAll_map id d xs fun x m => (h x m).deep
    simp only [List.map_id] at this
    simp only [PyData.depth]; omega
  · have := showableAll_map id xs fun x m => (h x m).show_
    simpa only [PyData.showable, List.map_id] using this
  · have := tls_map id n xs fun x m => (h x m).len
    simp only [List.map_id] at this
    have h2 : (n + 2) * xs.length ≤ (n + 2) * k := Nat.mul_le_mul_left _ hk
    simp only [tl]; omega
theorem DOk.lst {d n k : Nat} {xs : List PyData} (h : ∀ x ∈ xs, DOk d n x) (hk : xs.length ≤ k) : DOk (d + 1) (3 + (n + 2) * k) (.list xs) := by
  have := DOk.tup h hk
  exact ⟨by simpa only [PyData.canLay0] using this.lay, by simpa only [PyData.depth] using this.deep, by simpa only [PyData.showable] using this.show_, by simpa only [tl] using this.len⟩
theorem DOk.str {s : Str} (h : GoodS s) : DOk 0 62 (.str s) := ⟨h.2.2, Nat.le_refl _, rfl, by simp only [tl]; have := h.2.1; omega⟩
theorem DOk.shaped {d n : Nat} {x : PyData} (h : DOk d n x) (hd : d ≤ 64) : SeqAt.shaped x = true := by
  unfold SeqAt.shaped
  rw [h.lay, decide_eq_true (Nat.le_trans h.deep hd)]; rfl
theorem DOk.shown {d n : Nat} {x : PyData} (h : DOk d n x) (hn : n ≤ sizeLine) : x.shown.length ≤ sizeLine := Nat.le_trans (shown_le x h.lay) (Nat.le_trans h.len hn)
/-- the text's length of a term d deep -/
def tmLen : Nat → Nat
  | 0 => 62
  | d + 1 => 3 + (max 62 (tmLen d) + 2) * 4
theorem tmLen_ge : ∀ d, 62 ≤ tmLen d
  | 0 => Nat.le_refl _
  | d + 1 => by unfold tmLen; omega
theorem Trm.dok : ∀ {d : Nat} {t : Trm}, Trm.ok d t → DOk d (tmLen d) (dat t.p)
  | d, .u s, h => by
    simp only [Trm.p, dat]
    exact (DOk.str (Trm.ok_u.mp h)).mono (Nat.zero_le _) (tmLen_ge d)
  | 0, .f _ _, h => h.elim
  | d + 1, .f s as, h => by
    simp only [Trm.p, dat, dats]
    refine DOk.tup (k := 4) (fun x m => ?_) (by rw [dats_map, Trm.ps_map]; simp; exact h.2.1)
    rcases List.mem_cons.mp m with e | m
    · subst e; exact (DOk.str h.1).mono (Nat.zero_le _) (Nat.le_max_left _ _)
    · rw [dats_map, Trm.ps_map, List.map_map] at m
      obtain ⟨a, ha, rfl⟩ := List.mem_map.mp m
      exact (Trm.dok (h.2.2 a ha)).mono (Nat.le_refl _) (Nat.le_max_right _ _)
mutual
theorem Trm.eqv : ∀ a b : Trm, PyData.eqv (dat a.p) (dat b.p) = true ↔ a = b
  | .u s, .u t => by simp only [Trm.p, dat, PyData.eqv, beq_iff_eq, Trm.u.injEq]
  | .u s, .f t bs => by simp [Trm.p, dat, PyData.eqv]
  | .f s as, .u t => by simp [Trm.p, dat, PyData.eqv]
  | .f s as, .f t bs => by
    simp only [Trm.p, dat, dats, PyData.eqv, PyData.eqvAll, Bool.and_eq_true, beq_iff_eq, Trm.f.injEq]
    rw [Trm.eqvs as bs]
theorem Trm.eqvs : ∀ as bs : List Trm, PyData.eqvAll (dats (Trm.ps as)) (dats (Trm.ps bs)) = true ↔ as = bs
  | [], [] => by simp [Trm.ps, dats, PyData.eqvAll]
  | [], b :: bs => by simp [Trm.ps, dats, PyData.eqvAll]
  | a :: as, [] => by simp [Trm.ps, dats, PyData.eqvAll]
  | a :: as, b :: bs => by
    simp only [Trm.ps, dats, PyData.eqvAll, Bool.and_eq_true, List.cons.injEq]
    rw [Trm.eqv a b, Trm.eqvs as bs]
end
end Pv

/-! PvS: stores that grow; steps of readings. -/
namespace Pv
open PySem PySem.Spec L2
/-- the store has grown, what stood outside ds stands -/
def Gr (ds : List Nat) (st st' : Sto) : Prop := st.length ≤ st'.length ∧ ∀ (i : Nat) c, i ∉ ds → st[i]? = some c → st'[i]? = some c
theorem Gr.refl {ds : List Nat} {st : Sto} : Gr ds st st := ⟨Nat.le_refl _, fun _ _ _ h => h⟩
theorem Gr.trans {ds : List Nat} {a b c : Sto} (h : Gr ds a b) (g : Gr ds b c) : Gr ds a c := ⟨Nat.le_trans h.1 g.1, fun i x n e => g.2 i x n (h.2 i x n e)⟩
theorem Gr.sub {ds es : List Nat} {a b : Sto} (h : Gr ds a b) (hs : ∀ i ∈ ds, i ∈ es) : Gr es a b := ⟨h.1, fun i x n e => h.2 i x (fun m => n (hs i m)) e⟩
theorem Gr.nil {es : List Nat} {a b : Sto} (h : Gr [] a b) : Gr es a b := h.sub (by simp)
theorem Gr.new {ds : List Nat} {st : Sto} {cs : List Cell} : Gr ds st (st ++ cs) := ⟨by simp, fun i c _ h => by rw [List.getElem?_append_left (List.getElem?_eq_some_iff.mp h).1]; exact h⟩
theorem Gr.set {ds : List Nat} {st : Sto} {n : Nat} {c : Cell} (h : n ∈ ds) : Gr ds st (st.set n c) := ⟨by simp, fun i x m e => by rw [List.getElem?_set_ne (show n ≠ i from fun z => m (by rw [← z]; exact h))]; exact e⟩
/-- a cell made later is none of these -/
theorem Gr.drop {ds : List Nat} {st st' : Sto} {n : Nat} (h : Gr (n :: ds) st st') (hn : st.length ≤ n) : Gr ds st st' := ⟨h.1, fun i x m e => h.2 i x (by
  have := (List.getElem?_eq_some_iff.mp e).1
  simp only [List.mem_cons, not_or]; exact ⟨by omega, m⟩) e⟩
theorem set_at {st : Sto} {n : Nat} {c d : Cell} (h : st[n]? = some d) : (st.set n c)[n]? = some c := List.getElem?_set_self (List.getElem?_eq_some_iff.mp h).1
theorem new_at {st : Sto} {c : Cell} : (st ++ [c])[st.length]? = some c := by simp
def DeckOk (st : Sto) (n : Nat) : Prop := ∃ a b c : Int, st[n]? = some (.lst [.int a, .int b, .int c])
theorem DeckOk.gr {ds : List Nat} {st st' : Sto} {n : Nat} (h : DeckOk st n) (g : Gr ds st st') (hn : n ∉ ds) : DeckOk st' n := let ⟨a, b, c, e⟩ := h; ⟨a, b, c, g.2 _ _ hn e⟩
theorem ix_ref {st : Sto} {n : Nat} {ys : List PV} {i : Int} {v : PV} {Q : PV → Sto → Prop} (hn : st[n]? = some (.lst ys)) (h : atI ys i = some v) (q : Q v st) : ixR (.ref n) (.int i) st Q :=
  ⟨i, rfl, ys, v, by simp only [seqP, lstP, lstS, hn], h, q⟩
theorem ix_lst {st : Sto} {ys : List PV} {i : Int} {v : PV} {Q : PV → Sto → Prop} (h : atI ys i = some v) (q : Q v st) : ixR (.lst ys) (.int i) st Q := ⟨i, rfl, ys, v, rfl, h, q⟩
theorem ix_tup {st : Sto} {ys : List PV} {i : Int} {v : PV} {Q : PV → Sto → Prop} (h : atI ys i = some v) (q : Q v st) : ixR (.tup ys) (.int i) st Q := ⟨i, rfl, ys, v, rfl, h, q⟩
theorem atI_of {α : Type} {xs : List α} {i : Int} (h0 : 0 ≤ i) (h : i < xs.length) : ∃ v, atI xs i = some v ∧ v ∈ xs := by
  obtain ⟨k, rfl⟩ := Int.eq_ofNat_of_zero_le h0
  have hk : k < xs.length := by omega
  exact ⟨xs[k], atI_nat (List.getElem?_eq_getElem hk), List.getElem_mem _⟩
/-- what draw keeps -/
def S_draw : Spc := fun xs st Q => ∃ (n : Nat) (m : Int), xs = [.ref n, .int m] ∧ DeckOk st n ∧ 0 < m ∧ m < 1073741824 ∧ ∀ (v : Int) st', 0 ≤ v → v < m → Gr [n] st st' → DeckOk st' n → Q (.int v) st'
end Pv

/-! PvR: readings at plain values. -/
namespace Pv
open PySem PySem.Spec L2
section
variable {st : Sto} {Q : PV → Sto → Prop} {i j : Int} {a b : Str} {xs ys : List PV} {n : Nat} {m k : Bool} {x y : PV}
theorem r_add : addR m (.int i) (.int j) st Q ↔ Q (.int (i + j)) st := Iff.rfl
theorem r_adds : addR m (.str a) (.str b) st Q ↔ a.length + b.length ≤ sizeLine ∧ Q (.str (a ++ b)) st := Iff.rfl
theorem r_addt : addR m (.tup xs) (.tup ys) st Q ↔ xs.length + ys.length ≤ sizeLine ∧ Q (.tup (xs ++ ys)) st := Iff.rfl
theorem r_addl : addR m (.lst xs) (.lst ys) st Q ↔ xs.length + ys.length ≤ sizeLine ∧ newL m (xs ++ ys) st Q := by
  show (∃ xs' ys', lstS st (.lst xs) = some xs' ∧ lstS st (.lst ys) = some ys' ∧ xs'.length + ys'.length ≤ sizeLine ∧ newL m (xs' ++ ys') st Q) ↔ _
  simp only [lstS, Option.some.injEq]
  exact ⟨fun ⟨_, _, rfl, rfl, h⟩ => h, fun h => ⟨_, _, rfl, rfl, h⟩⟩
theorem r_sub : subR (.int i) (.int j) st Q ↔ Q (.int (i - j)) st := ⟨fun ⟨_, _, e, f, h⟩ => by cases e; cases f; exact h, fun h => ⟨_, _, rfl, rfl, h⟩⟩
theorem r_mul : mulR (.int i) (.int j) st Q ↔ ((-(2 ^ 64) < i ∧ i < 2 ^ 64) ∨ (-(2 ^ 64) < j ∧ j < 2 ^ 64)) ∧ Q (.int (i * j)) st := Iff.rfl
theorem r_fdiv : fdivR (.int i) (.int j) st Q ↔ (0 < j ∧ j < 1073741824) ∧ Q (.int (i / j)) st := ⟨fun ⟨_, _, e, f, h⟩ => by cases e; cases f; exact h, fun h => ⟨_, _, rfl, rfl, h⟩⟩
theorem r_mod : modR (.int i) (.int j) st Q ↔ 0 < j ∧ Q (.int (i % j)) st := ⟨fun ⟨_, _, e, f, h⟩ => by cases e; cases f; exact h, fun h => ⟨_, _, rfl, rfl, h⟩⟩
theorem r_pow : powR (.int i) (.int j) st Q ↔ (0 ≤ j ∧ j ≤ 1000000 ∧ i.natAbs < 2 ^ 64) ∧ Q (.int (i ^ j.toNat)) st := ⟨fun ⟨_, _, e, f, h⟩ => by cases e; cases f; exact h, fun h => ⟨_, _, rfl, rfl, h⟩⟩
theorem r_lt : ltR (.int i) (.int j) st Q ↔ Q (.bl (decide (i < j))) st := Iff.rfl
theorem r_le : leR (.int i) (.int j) st Q ↔ Q (.bl (decide (i ≤ j))) st := Iff.rfl
theorem r_gt : gtR (.int i) (.int j) st Q ↔ Q (.bl (decide (j < i))) st := Iff.rfl
theorem r_ge : geR (.int i) (.int j) st Q ↔ Q (.bl (decide (j ≤ i))) st := Iff.rfl
theorem sh_int : SeqAt.shaped (.int i) = true := rfl
theorem r_eqi : eqA (.int i) (.int j) st Q ↔ Q (.bl (i == j)) st :=
  ⟨fun ⟨_, _, e, f, _, _, h⟩ => by cases e; cases f; exact h, fun h => ⟨_, _, rfl, rfl, rfl, rfl, h⟩⟩
theorem r_nei : neA (.int i) (.int j) st Q ↔ Q (.bl (i != j)) st :=
  ⟨fun ⟨_, _, e, f, _, _, h⟩ => by cases e; cases f; exact h, fun h => ⟨_, _, rfl, rfl, rfl, rfl, h⟩⟩
theorem r_eqs : eqA (.str a) (.str b) st Q ↔ Q (.bl (a == b)) st := Iff.rfl
theorem r_nes : neA (.str a) (.str b) st Q ↔ Q (.bl (a != b)) st := Iff.rfl
theorem r_inti : intR [.int i] st Q ↔ Q (.int i) st := ⟨fun ⟨_, e, h⟩ => by cases e; exact h, fun h => ⟨_, rfl, h⟩⟩
theorem r_intb : intR [.bl k] st Q ↔ Q (.int (if k then 1 else 0)) st := ⟨fun ⟨_, e, h⟩ => by cases e; exact h, fun h => ⟨_, rfl, h⟩⟩
theorem r_ixr : ixR (.ref n) (.int i) st Q ↔ ∃ ys v, st[n]? = some (.lst ys) ∧ atI ys i = some v ∧ Q v st := by
  constructor
  · rintro ⟨i', e, ys, v, h, h2, q⟩
    cases e
    simp only [seqP, lstP, lstS] at h
    split at h
    · cases h; exact ⟨_, _, by assumption, h2, q⟩
    · cases h
  · rintro ⟨ys, v, h, h2, q⟩; exact ix_ref h h2 q
theorem r_ixl : ixR (.lst ys) (.int i) st Q ↔ ∃ v, atI ys i = some v ∧ Q v st := ⟨fun ⟨_, e, _, v, h, h2, q⟩ => by cases e; cases h; exact ⟨v, h2, q⟩, fun ⟨v, h, q⟩ => ix_lst h q⟩
theorem r_ixt : ixR (.tup ys) (.int i) st Q ↔ ∃ v, atI ys i = some v ∧ Q v st := ⟨fun ⟨_, e, _, v, h, h2, q⟩ => by cases e; cases h; exact ⟨v, h2, q⟩, fun ⟨v, h, q⟩ => ix_tup h q⟩
theorem r_ixs : ixR (.str a) (.int i) st Q ↔ ∃ c, a.length ≤ sizeLine ∧ atI a.cps.toList i = some c ∧ Q (.str ⟨#[c]⟩) st := ⟨fun ⟨_, e, h⟩ => by cases e; exact h, fun h => ⟨_, rfl, h⟩⟩
theorem atI_0 {α : Type} {x : α} {xs : List α} : atI (x :: xs) 0 = some x := atI_nat rfl
theorem atI_1 {α : Type} {x y : α} {xs : List α} : atI (x :: y :: xs) 1 = some y := atI_nat rfl
theorem atI_2 {α : Type} {x y z : α} {xs : List α} : atI (x :: y :: z :: xs) 2 = some z := atI_nat rfl
theorem ixN_nat {n k : Nat} (h : k < n) : ixN n (k : Int) = some k := by
  unfold ixN; simp; omega
theorem r_newt : newL true xs st Q ↔ Q (.ref st.length) (st ++ [.lst xs]) := Iff.rfl
theorem r_newf : newL false xs st Q ↔ Q (.lst xs) st := Iff.rfl
theorem r_len (h : seqP st x = some ys) (q : Q (.int ys.length) st) : lenR [x] st Q := by
  refine ⟨x, rfl, ?_⟩
  cases x with
  | str z => cases h
  | _ => exact ⟨ys, h, q⟩
theorem ix_seq (h : seqP st x = some ys) (h2 : atI ys i = some y) (q : Q y st) : ixR x (.int i) st Q := by
  refine ⟨i, rfl, ?_⟩
  cases x with
  | str z => cases h
  | _ => exact ⟨ys, y, h, h2, q⟩
theorem seq_gr {ds : List Nat} {st' : Sto} (h : seqP st x = some ys) (g : Gr ds st st') (hn : ∀ n ∈ ds, x ≠ .ref n) : seqP st' x = some ys := by
  cases x with
  | ref j =>
    simp only [seqP, lstP, lstS] at h ⊢
    split at h
    · rename_i c hc
      rw [g.2 j _ (fun m => hn j m rfl) hc]; exact h
    · cases h
  | _ => exact h
end
def S_pick : Spc := fun xs st Q => ∃ n x ys, xs = [.ref n, x] ∧ DeckOk st n ∧ seqP st x = some ys ∧ x ≠ .ref n ∧ ys ≠ [] ∧ ys.length < 1073741824 ∧ ∀ v st', v ∈ ys → Gr [n] st st' → DeckOk st' n → Q v st'
def S_spelt : Spc := fun xs st Q => ∃ n L, xs = [.ref n, .str L] ∧ DeckOk st n ∧ L.length = 26 ∧ PyData.strOk L = true ∧ ∀ s st', GoodS s → Gr [n] st st' → DeckOk st' n → Q (.str s) st'
theorem sign_ok {L : Str} {i : Int} (h : PyData.strOk L = true) (h0 : 0 ≤ i) (h1 : i < L.length) : ∃ c, atI L.cps.toList i = some c ∧ PyData.strOk ⟨#[c]⟩ = true := by
  obtain ⟨c, e, m⟩ := atI_of (xs := L.cps.toList) h0 (by simpa [Str.length] using h1)
  refine ⟨c, e, ?_⟩
  have := Array.all_eq_true_iff_forall_mem.mp h c (Array.mem_toList_iff.mp m)
  show (#[c] : Array Nat).all _ = true
  simpa using this

inductive All2 (P : PV → PV → Prop) : List PV → List PV → Prop
  | nil : All2 P [] []
  | cons {x y xs ys} : P x y → All2 P xs ys → All2 P (x :: xs) (y :: ys)
theorem All2.imp {P P' : PV → PV → Prop} (hp : ∀ x y, P x y → P' x y) {xs ys : List PV} (h : All2 P xs ys) : All2 P' xs ys := by
  induction h with
  | nil => exact .nil
  | cons p _ ih => exact .cons (hp _ _ p) ih
theorem All2.len {P : PV → PV → Prop} {xs ys : List PV} (h : All2 P xs ys) : xs.length = ys.length := by
  induction h with
  | nil => rfl
  | cons _ _ ih => simp [ih]
/-- a comprehension with one name and no condition -/
theorem lc_map {gd : Sto → Prop} {i : Nat} {te : WE} {env : Envp} (ds : List Nat) (I : Sto → Prop) (P : PV → PV → Prop) (hg : ∀ st, I st → gd st) : ∀ (items acc : List PV) (st : Sto) (kk : List PV → Sto → Prop),
    (∀ x ∈ items, ∀ st Q, I st → (∀ y st', P x y → I st' → Gr ds st st' → Q y st') → te (env.set i (some x)) st Q) → I st → acc.length + items.length ≤ sizeLine →
    (∀ ys st', All2 P items ys → I st' → Gr ds st st' → kk (acc ++ ys) st') → lcGo gd (gNm i) tYesP te env items acc st kk
  | [], acc, st, kk, _, hI, _, k => ⟨hg st hI, by simpa using k [] st .nil hI .refl⟩
  | x :: xs, acc, st, kk, h, hI, hl, k => by
    refine ⟨hg st hI, ?_⟩
    simp only [gNm, tYesP, if_true]
    simp only [List.length_cons] at hl
    refine h x List.mem_cons_self st _ hI fun y st' p hI' g => ⟨by omega, ?_⟩
    refine lc_map ds I P hg xs (acc ++ [y]) st' kk (fun z m => h z (List.mem_cons_of_mem _ m)) hI' (by simp; omega) fun ys st2 a hI2 g2 => ?_
    have := k (y :: ys) st2 (.cons p a) hI2 (g.trans g2)
    simpa using this

/-! ### texts put together -/
theorem str_app (a b : Str) : a ++ b = ⟨a.cps ++ b.cps⟩ := rfl
theorem strOk_app {a b : Str} (ha : PyData.strOk a = true) (hb : PyData.strOk b = true) : PyData.strOk (a ++ b) = true := by
  unfold PyData.strOk at *
  rw [str_app, Array.all_append, ha, hb]; rfl
theorem len_app (a b : Str) : (a ++ b).length = a.length + b.length := strLen_append a b
theorem join_ok (s : Str) (hs : s.length = 0) (hso : PyData.strOk s = true) : ∀ ss : List Str, (∀ x ∈ ss, PyData.strOk x = true) → PyData.strOk (Str.join s ss) = true ∧ (Str.join s ss).length = (ss.map (·.length)).sum
  | [], _ => ⟨(show PyData.strOk Str.empty = true by decide +kernel), rfl⟩
  | [x], h => ⟨h x List.mem_cons_self, by simp [Str.join]⟩
  | x :: y :: r, h => by
    obtain ⟨h1, h2⟩ := join_ok s hs hso (y :: r) fun z m => h z (List.mem_cons_of_mem _ m)
    have e : Str.join s (x :: y :: r) = x ++ s ++ Str.join s (y :: r) := rfl
    rw [e]
    refine ⟨strOk_app (strOk_app (h x List.mem_cons_self) hso) h1, ?_⟩
    rw [len_app, len_app, hs, h2]; simp [Nat.add_assoc]
theorem txt_join (a : Str) (ss : List Str) : Txt.join a ss = Str.join a ss := PySem.StrLaws.glued_eq_join a ss
theorem sum_le {ss : List Str} (h : ∀ x ∈ ss, x.length = 1) : (ss.map (·.length)).sum = ss.length := by
  induction ss with
  | nil => rfl
  | cons x r ih => rw [List.map_cons, List.sum_cons, h x List.mem_cons_self, ih fun y m => h y (List.mem_cons_of_mem _ m), List.length_cons]; omega
theorem all2_strs {P : Str → Prop} : ∀ {items ys : List PV}, All2 (fun _ y => ∃ s, y = .str s ∧ P s) items ys → ∃ ss, ys = pStrs ss ∧ ss.length = items.length ∧ ∀ s ∈ ss, P s
  | _, _, .nil => ⟨[], rfl, rfl, by simp⟩
  | _, _, .cons ⟨s, e, p⟩ h => by
    obtain ⟨ss, e2, hl, hp⟩ := all2_strs h
    refine ⟨s :: ss, by rw [e, e2]; rfl, by simp [hl], fun t m => ?_⟩
    rcases List.mem_cons.mp m with q | q
    · rw [q]; exact p
    · exact hp t q

/-! ### pieces of texts -/
theorem cut_ok {z : Str} {lo hi : Option Int} (h : PyData.strOk z = true) : PyData.strOk (cutS z lo hi) = true := by
  unfold PyData.strOk at *
  unfold cutS
  rw [Array.all_eq_true_iff_forall_mem] at *
  intro x m
  refine h x ?_
  have m2 : x ∈ ((z.cps.toList.drop (HT.sIx z.length 0 lo)).take (HT.sIx z.length z.length hi - HT.sIx z.length 0 lo)) := by simpa using m
  exact Array.mem_toList_iff.mp (List.mem_of_mem_drop (List.mem_of_mem_take m2))
theorem cut_hi (z : Str) (k : Nat) : (cutS z none (some (k : Int))).length = min k z.length := by
  unfold cutS
  rw [HT.sIx_none, HT.sIx_nat]
  show (List.toArray _).size = _
  simp [Str.length]
theorem cut_lo (z : Str) (k : Nat) : (cutS z (some (k : Int)) none).length = z.length - k := by
  unfold cutS
  rw [HT.sIx_none, HT.sIx_nat]
  show (List.toArray _).size = _
  simp [Str.length]
  omega
variable {st : Sto} {Q : PV → Sto → Prop} {i j : Int} in
theorem r_min : min2R [.int i, .int j] st Q ↔ Q (.int (if j < i then j else i)) st := ⟨fun ⟨_, _, e, h⟩ => by cases e; exact h, fun h => ⟨_, _, rfl, h⟩⟩
variable {st : Sto} {Q : PV → Sto → Prop} {i j : Int} in
theorem r_max : max2R [.int i, .int j] st Q ↔ Q (.int (if j > i then j else i)) st := ⟨fun ⟨_, _, e, h⟩ => by cases e; exact h, fun h => ⟨_, _, rfl, h⟩⟩
variable {st : Sto} {Q : PV → Sto → Prop} in
theorem r_lens {a : Str} : lenR [.str a] st Q ↔ a.length ≤ sizeLine ∧ Q (.int a.length) st := ⟨fun ⟨_, e, h⟩ => by cases e; exact h, fun h => ⟨_, rfl, h⟩⟩
theorem rgP_len (lo : Int) (n : Nat) : (rgP lo n).length = n := by simp [rgP]
theorem rgP_mem {lo : Int} {n : Nat} {x : PV} (h : x ∈ rgP lo n) : ∃ k : Nat, k < n ∧ x = .int (lo + k) := by
  unfold rgP at h
  obtain ⟨k, hk, rfl⟩ := List.mem_map.mp h
  exact ⟨k, List.mem_range.mp hk, rfl⟩
end Pv

/-! Ir: readings as data; the meaning of a whole program by levels. -/
namespace Pv
open PySem PySem.Spec L2

inductive OpN where
  | add (m : Bool) | sub | mul | fdiv | mod | pow | lt | le | gt | ge | eq | ne | inL | notIn | inS | isN | notN | ix | dget | iadd
def OpN.den : OpN → OpP
  | .add m => addR m | .sub => subR | .mul => mulR | .fdiv => fdivR | .mod => modR | .pow => powR
  | .lt => ltR | .le => leR | .gt => gtR | .ge => geR | .eq => eqA | .ne => neA | .inL => inR | .notIn => notInR | .inS => inSR
  | .isN => isNR | .notN => notNR | .ix => ixR | .dget => dgetR | .iadd => iaddR
inductive CaN where
  | len | tuple | list (m : Bool) | sum | all | any | int | max2 | min2 | repr | zipL (m : Bool) | rev (m : Bool)
def CaN.den : CaN → CaP
  | .len => lenR | .tuple => tupleR | .list m => listR m | .sum => sumR | .all => allR | .any => anyR | .int => intR | .max2 => max2R | .min2 => min2R | .repr => reprR | .zipL m => zipLR m | .rev m => revR m
inductive MtN where
  | append | extend | pop | join | upper
def MtN.den : MtN → MtP
  | .append => appendR | .extend => extendR | .pop => popR | .join => joinR | .upper => upperR
mutual
inductive QE where
  | var (i : Nat) | cst (v : PV) | op (o : OpN) (a b : QE) | tup (as : QA) | lst (m : Bool) (as : QA) | ite (t : QT) (a b : QE)
  | andV (a b : QE) | orV (a b : QE) | notV (a : QE) | neg (a : QE) | chain (o o' : OpN) (a b c : QE)
  | call (n f : Nat) (as : QA) | ca (r : CaN) (as : QA) | isi (T : String) (a : QE) | sl (m : Bool) (a : QE) (lo hi : QO)
  | mt (T : String) (r : MtN) (o : QE) (as : QA) | lc (m : Bool) (it : QI) (g : QG) (t : QT) (e : QE) (own : List Nat)
  | disp (m : Bool) (ps : QP) | dict0 (m : Bool)
inductive QA where
  | nil | cons (e : QE) (r : QA)
inductive QP where
  | nil | cons (k v : QE) (r : QP)
inductive QT where
  | tru (e : QE) | val (e : QE) | and (a b : QT) | or (a b : QT) | not (a : QT) | chain (o o' : OpN) (a b c : QE) | yes
inductive QO where
  | no | so (e : QE)
inductive QI where
  | val (e : QE) | rg1 (as : QA) | rg2 (as : QA) | en (as : QA)
inductive QG where
  | nm (i : Nat) | tp (n : Nat) (gs : QL) | ul (n : Nat) (gs : QL) | ix (o i : QE) | star (m : Bool) (n i : Nat) (gs : QL)
inductive QL where
  | nil | cons (g : QG) (r : QL)
end
mutual
def QE.den (φ : Nat → Spc) : QE → WE
  | .var i => wVar i
  | .cst v => wC v
  | .op o a b => wOp o.den (a.den φ) (b.den φ)
  | .tup as => wTup (as.den φ)
  | .lst m as => wLst m (as.den φ)
  | .ite t a b => wIf (t.den φ) (a.den φ) (b.den φ)
  | .andV a b => wAndT (a.den φ) (b.den φ)
  | .orV a b => wOrT (a.den φ) (b.den φ)
  | .notV a => wNotT (a.den φ)
  | .neg a => wNeg (a.den φ)
  | .chain o o' a b c => wChain o.den o'.den (a.den φ) (b.den φ) (c.den φ)
  | .call n f as => wCall n (φ f) (as.den φ)
  | .ca r as => wCa r.den (as.den φ)
  | .isi T a => wIsi T (a.den φ)
  | .sl m a lo hi => wSl m (a.den φ) (lo.den φ) (hi.den φ)
  | .mt T r o as => wM T r.den (o.den φ) (as.den φ)
  | .lc m it g t e own => wLc m (it.den φ) (g.den φ) (t.den φ) (e.den φ) own
  | .disp m ps => wDisp m (ps.den φ)
  | .dict0 m => fun _ st Q => newD m [] [] st Q
def QA.den (φ : Nat → Spc) : QA → WA
  | .nil => wNil
  | .cons e r => wCons (e.den φ) (r.den φ)
def QP.den (φ : Nat → Spc) : QP → List (WE × WE)
  | .nil => []
  | .cons k v r => (k.den φ, v.den φ) :: r.den φ
def QT.den (φ : Nat → Spc) : QT → WT
  | .tru e => tTru (e.den φ)
  | .val e => tValP (e.den φ)
  | .and a b => tAndP (a.den φ) (b.den φ)
  | .or a b => tOrP (a.den φ) (b.den φ)
  | .not a => tNotP (a.den φ)
  | .chain o o' a b c => tChainP o.den o'.den (a.den φ) (b.den φ) (c.den φ)
  | .yes => tYesP
def QO.den (φ : Nat → Spc) : QO → WO
  | .no => oNo
  | .so e => oSo (e.den φ)
def QI.den (φ : Nat → Spc) : QI → WI
  | .val e => iVal (e.den φ)
  | .rg1 as => iRg1 (as.den φ)
  | .rg2 as => iRg2 (as.den φ)
  | .en as => iEnP (as.den φ)
def QG.den (φ : Nat → Spc) : QG → WG
  | .nm i => gNm i
  | .tp n gs => gTp n (gs.den φ)
  | .ul n gs => gUl n (gs.den φ)
  | .ix o i => gIx (o.den φ) (i.den φ)
  | .star m n i gs => gStar m n i (gs.den φ)
def QL.den (φ : Nat → Spc) : QL → List PV → Envp → Sto → (Envp → Sto → Prop) → Prop
  | .nil => gNl
  | .cons g r => gCn (g.den φ) (r.den φ)
end
inductive QS where
  | next | seq (a b : QS) | ite (t : QT) (a b : QS) | ret (e : QE) | retN | drop (e : QE) | brk | cnt
  | asg (e : QE) (g : QG) | par (i j : Nat) (as : QA) | for (it : QI) (g : QG) (b : QS) | while (t : QT) (b : QS) | never | tag (i : Nat) (s : QS)
def QS.den (φ : Nat → Spc) : QS → WS
  | .next => sNext
  | .seq a b => sSeq (a.den φ) (b.den φ)
  | .ite t a b => sIf (t.den φ) (a.den φ) (b.den φ)
  | .ret e => sRet (e.den φ)
  | .retN => sRetN
  | .drop e => sDrop (e.den φ)
  | .brk => sBrk
  | .cnt => sCnt
  | .asg e g => sAsg (e.den φ) (g.den φ)
  | .par i j as => sPar i j (as.den φ)
  | .for it g b => sFor (it.den φ) (g.den φ) (b.den φ)
  | .while t b => sWhile (t.den φ) (b.den φ)
  | .never => sNever
  | .tag _ s => s.den φ

/-- a def: how many slots, its body -/
structure QF where
  slots : Nat
  body : QS
def startN (n : Nat) (xs : List PV) : Envp := xs.map some ++ List.replicate (n - xs.length) none
/-- what calls tell, where so many levels are left -/
def Sem (P : List QF) : Nat → Nat → Spc
  | 0, _ => fun _ _ _ => False
  | k + 1, f => fun xs st Q => match P[f]? with
    | some F => F.body.den (Sem P k) { nx := fun _ st' => Q .non st', rt := Q } (startN F.slots xs) st
    | none => False
end Pv

/-! Ai1: types of values, what they mean, which lies in which. -/
namespace Pv
open PySem PySem.Spec L2

/-- what more is known of a whole number: it is a length (and so much more), or below it -/
inductive Sy where
  | no | eq (id : Nat) (off : Int) | lt (id : Nat) (off : Int)
  deriving DecidableEq
inductive Kd where
  | tup | lst | fls | anl
  deriving DecidableEq
inductive Ty where
  | any | int (lo hi : Option Int) (s : Sy) | bl (f t : Bool) | non | str (lo hi : Nat) (id : Option Nat) | cst (s : Str)
  | tup (ts : List Ty) | lst (ts : List Ty) | seq (k : Kd) (t : Ty) (lo hi : Nat) (id : Option Nat)
  | dk (ks : List Key) (ts : List Ty) | cell (k : Nat) | usr (u : Nat) | or (a b : Ty) | dat (d n : Nat) | raw

def Kd.is : Kd → PV → List PV → Prop
  | .tup, v, xs => v = .tup xs
  | .lst, v, xs => v = .lst xs
  | .fls, v, xs => v = .fls xs
  | .anl, v, xs => v = .lst xs ∨ v = .fls xs
def geO : Option Int → Int → Prop
  | none, _ => True
  | some l, i => l ≤ i
def leO : Option Int → Int → Prop
  | none, _ => True
  | some h, i => i ≤ h
def Sy.ok (ν : List Nat) : Sy → Int → Prop
  | .no, _ => True
  | .eq id off, i => ∃ l, ν[id]? = some l ∧ i = l + off
  | .lt id off, i => ∃ l, ν[id]? = some l ∧ i < l + off
def idOk (ν : List Nat) : Option Nat → Nat → Prop
  | none, _ => True
  | some id, n => ν[id]? = some n
/-- what types of the user's own mean -/
abbrev UT := Nat → PV → Prop
mutual
def Ty.has (U : UT) (ρ ν : List Nat) : Ty → PV → Prop
  | .any, _ => True
  | .int lo hi s, v => ∃ i, v = .int i ∧ geO lo i ∧ leO hi i ∧ s.ok ν i
  | .bl f t, v => ∃ b, v = .bl b ∧ (if b = true then t else f) = true
  | .non, v => v = .non
  | .str lo hi id, v => ∃ s, v = .str s ∧ PyData.strOk s = true ∧ lo ≤ s.length ∧ s.length ≤ hi ∧ idOk ν id s.length
  | .cst s, v => v = .str s ∧ PyData.strOk s = true
  | .tup ts, v => ∃ xs, v = .tup xs ∧ Ty.hasL U ρ ν ts xs
  | .lst ts, v => ∃ xs, v = .lst xs ∧ Ty.hasL U ρ ν ts xs
  | .seq k t lo hi id, v => ∃ xs, k.is v xs ∧ lo ≤ xs.length ∧ xs.length ≤ hi ∧ idOk ν id xs.length ∧ ∀ x ∈ xs, Ty.has U ρ ν t x
  | .dk ks ts, v => ∃ xs, v = .dk ks xs ∧ Ty.hasL U ρ ν ts xs
  | .cell k, v => ∃ a, ρ[k]? = some a ∧ v = .ref a
  | .usr u, v => U u v
  | .or a b, v => Ty.has U ρ ν a v ∨ Ty.has U ρ ν b v
  | .dat d n, v => isD v = true ∧ DOk d n (Pv.dat v)
  | .raw, v => ∃ s, v = .str s
def Ty.hasL (U : UT) (ρ ν : List Nat) : List Ty → List PV → Prop
  | [], xs => xs = []
  | t :: ts, xs => ∃ y ys, xs = y :: ys ∧ Ty.has U ρ ν t y ∧ Ty.hasL U ρ ν ts ys
end
section
variable {U : UT} {ρ ρ' ν ν' : List Nat}
theorem get_pre {α : Type} {xs ys : List α} (h : xs <+: ys) {i : Nat} {a : α} (e : xs[i]? = some a) : ys[i]? = some a := by
  obtain ⟨t, rfl⟩ := h
  rw [List.getElem?_append_left (List.getElem?_eq_some_iff.mp e).1]; exact e
theorem Sy.ok.ext (hn : ν <+: ν') {s : Sy} {i : Int} (h : s.ok ν i) : s.ok ν' i := by
  cases s with
  | no => trivial
  | eq id off => exact ⟨h.choose, get_pre hn h.choose_spec.1, h.choose_spec.2⟩
  | lt id off => exact ⟨h.choose, get_pre hn h.choose_spec.1, h.choose_spec.2⟩
theorem idOk.ext (hn : ν <+: ν') {o : Option Nat} {i : Nat} (h : idOk ν o i) : idOk ν' o i := by
  cases o with
  | none => trivial
  | some id => exact get_pre hn h
mutual
theorem Ty.has.ext (hr : ρ <+: ρ') (hn : ν <+: ν') : ∀ (t : Ty) (v : PV), t.has U ρ ν v → t.has U ρ' ν' v
  | .any, _, _ => by simp only [Ty.has]
  | .int lo hi s, v, h => by
    simp only [Ty.has] at h ⊢
    obtain ⟨i, e, a, b, c⟩ := h
    exact ⟨i, e, a, b, c.ext hn⟩
  | .bl f t, v, h => by simp only [Ty.has] at h ⊢; exact h
  | .non, v, h => by simp only [Ty.has] at h ⊢; exact h
  | .str lo hi id, v, h => by
    simp only [Ty.has] at h ⊢
    obtain ⟨s, e, a, b, c, d⟩ := h
    exact ⟨s, e, a, b, c, d.ext hn⟩
  | .cst s, v, h => by simp only [Ty.has] at h ⊢; exact h
  | .tup ts, v, h => by
    simp only [Ty.has] at h ⊢
    obtain ⟨xs, e, a⟩ := h
    exact ⟨xs, e, Ty.hasL.ext hr hn ts xs a⟩
  | .lst ts, v, h => by
    simp only [Ty.has] at h ⊢
    obtain ⟨xs, e, a⟩ := h
    exact ⟨xs, e, Ty.hasL.ext hr hn ts xs a⟩
  | .seq k t lo hi id, v, h => by
    simp only [Ty.has] at h ⊢
    obtain ⟨xs, e, a, b, c, d⟩ := h
    exact ⟨xs, e, a, b, c.ext hn, fun x m => Ty.has.ext hr hn t x (d x m)⟩
  | .dk ks ts, v, h => by
    simp only [Ty.has] at h ⊢
    obtain ⟨xs, e, a⟩ := h
    exact ⟨xs, e, Ty.hasL.ext hr hn ts xs a⟩
  | .cell k, v, h => by
    simp only [Ty.has] at h ⊢
    obtain ⟨a, e, f⟩ := h
    exact ⟨a, get_pre hr e, f⟩
  | .usr u, v, h => by simp only [Ty.has] at h ⊢; exact h
  | .or a b, v, h => by
    simp only [Ty.has] at h ⊢
    exact h.imp (Ty.has.ext hr hn a v) (Ty.has.ext hr hn b v)
  | .dat d n, v, h => by simp only [Ty.has] at h ⊢; exact h
  | .raw, v, h => by simp only [Ty.has] at h ⊢; exact h
theorem Ty.hasL.ext (hr : ρ <+: ρ') (hn : ν <+: ν') : ∀ (ts : List Ty) (xs : List PV), Ty.hasL U ρ ν ts xs → Ty.hasL U ρ' ν' ts xs
  | [], xs, h => by simp only [Ty.hasL] at h ⊢; exact h
  | t :: ts, xs, h => by
    simp only [Ty.hasL] at h ⊢
    obtain ⟨y, ys, e, a, b⟩ := h
    exact ⟨y, ys, e, Ty.has.ext hr hn t y a, Ty.hasL.ext hr hn ts ys b⟩
end
theorem hasL_len : ∀ {ts : List Ty} {xs : List PV}, Ty.hasL U ρ ν ts xs → xs.length = ts.length
  | [], _, h => by simp only [Ty.hasL] at h; subst h; rfl
  | t :: ts, _, h => by
    simp only [Ty.hasL] at h
    obtain ⟨y, ys, rfl, _, b⟩ := h
    simp [hasL_len b]
theorem hasL_get : ∀ {ts : List Ty} {xs : List PV} {i : Nat} {t : Ty}, Ty.hasL U ρ ν ts xs → ts[i]? = some t → ∃ v, xs[i]? = some v ∧ t.has U ρ ν v
  | [], _, i, t, _, e => by simp at e
  | t :: ts, _, i, t', h, e => by
    simp only [Ty.hasL] at h
    obtain ⟨y, ys, rfl, a, b⟩ := h
    cases i with
    | zero => simp at e; subst e; exact ⟨y, by simp, a⟩
    | succ i =>
      obtain ⟨v, q1, q2⟩ := hasL_get b (by simpa using e)
      exact ⟨v, by simpa using q1, q2⟩
theorem hasL_mem : ∀ {ts : List Ty} {xs : List PV} {x : PV}, Ty.hasL U ρ ν ts xs → x ∈ xs → ∃ t ∈ ts, t.has U ρ ν x
  | [], _, x, h, m => by simp only [Ty.hasL] at h; subst h; cases m
  | t :: ts, _, x, h, m => by
    simp only [Ty.hasL] at h
    obtain ⟨y, ys, rfl, a, b⟩ := h
    rcases List.mem_cons.mp m with e | m
    · subst e; exact ⟨t, List.mem_cons_self, a⟩
    · obtain ⟨u, mu, hu⟩ := hasL_mem b m
      exact ⟨u, List.mem_cons_of_mem _ mu, hu⟩
theorem hasL_app : ∀ {ts us : List Ty} {xs ys : List PV}, Ty.hasL U ρ ν ts xs → Ty.hasL U ρ ν us ys → Ty.hasL U ρ ν (ts ++ us) (xs ++ ys)
  | [], _, _, _, h, g => by simp only [Ty.hasL] at h; subst h; exact g
  | t :: ts, us, _, ys, h, g => by
    simp only [Ty.hasL] at h
    obtain ⟨y, zs, rfl, a, b⟩ := h
    simp only [List.cons_append, Ty.hasL]
    exact ⟨y, _, rfl, a, hasL_app b g⟩
theorem hasL_take : ∀ {ts : List Ty} {xs : List PV} (n : Nat), Ty.hasL U ρ ν ts xs → Ty.hasL U ρ ν (ts.take n) (xs.take n)
  | [], _, n, h => by simp only [Ty.hasL] at h; subst h; simp [Ty.hasL]
  | t :: ts, _, 0, h => by simp [Ty.hasL]
  | t :: ts, _, n + 1, h => by
    simp only [Ty.hasL] at h
    obtain ⟨y, ys, rfl, a, b⟩ := h
    simp only [List.take_succ_cons, Ty.hasL]
    exact ⟨y, _, rfl, a, hasL_take n b⟩
theorem hasL_drop : ∀ {ts : List Ty} {xs : List PV} (n : Nat), Ty.hasL U ρ ν ts xs → Ty.hasL U ρ ν (ts.drop n) (xs.drop n)
  | [], _, n, h => by simp only [Ty.hasL] at h; subst h; simp [Ty.hasL]
  | t :: ts, _, 0, h => h
  | t :: ts, _, n + 1, h => by
    simp only [Ty.hasL] at h
    obtain ⟨y, ys, rfl, a, b⟩ := h
    simp only [List.drop_succ_cons]
    exact hasL_drop n b
theorem hasL_set : ∀ {ts : List Ty} {xs : List PV} {t : Ty} {x : PV} (n : Nat), Ty.hasL U ρ ν ts xs → t.has U ρ ν x → Ty.hasL U ρ ν (ts.set n t) (xs.set n x)
  | [], _, _, _, n, h, _ => by simp only [Ty.hasL] at h; subst h; simp [Ty.hasL]
  | t :: ts, _, _, _, 0, h, g => by
    simp only [Ty.hasL] at h
    obtain ⟨y, ys, rfl, a, b⟩ := h
    simp only [List.set_cons_zero, Ty.hasL]
    exact ⟨_, _, rfl, g, b⟩
  | t :: ts, _, _, _, n + 1, h, g => by
    simp only [Ty.hasL] at h
    obtain ⟨y, ys, rfl, a, b⟩ := h
    simp only [List.set_cons_succ, Ty.hasL]
    exact ⟨_, _, rfl, a, hasL_set n b g⟩
end

/-! ### which type lies in which -/
/-- the user's own types: what lies in them, in what they lie -/
structure US where
  into : (Ty → Ty → Bool) → Ty → Nat → Bool
  unf : Nat → Ty
def bdL (f : Ty → Option (Nat × Nat)) : List Ty → Option (Nat × Nat)
  | [] => some (0, 0)
  | t :: ts => match f t, bdL f ts with
    | some (d, n), some (e, m) => some (max d e, n + 2 + m)
    | _, _ => none
def bigI : Int := 10 ^ 50
/-- how deep, how long in a text, data of a type is -/
def Ty.bd (us : US) : Nat → Ty → Option (Nat × Nat)
  | 0, _ => none
  | k + 1, t => match t with
    | .int (some lo) (some hi) _ => if -bigI < lo ∧ hi < bigI then some (0, 60) else none
    | .bl _ _ => some (0, 5)
    | .non => some (0, 4)
    | .str _ hi _ => some (0, 10 * hi + 2)
    | .cst s => some (0, 10 * s.length + 2)
    | .tup ts => match bdL (Ty.bd us k) ts with
      | some (d, n) => some (d + 1, 3 + n)
      | none => none
    | .lst ts => match bdL (Ty.bd us k) ts with
      | some (d, n) => some (d + 1, 3 + n)
      | none => none
    | .seq _ t _ hi _ => match Ty.bd us k t with
      | some (d, n) => some (d + 1, 3 + (n + 2) * hi)
      | none => none
    | .usr u => Ty.bd us k (us.unf u)
    | .or a b => match Ty.bd us k a, Ty.bd us k b with
      | some (d, n), some (e, m) => some (max d e, max n m)
      | _, _ => none
    | .dat d n => some (d, n)
    | _ => none
def leOI : Option Int → Option Int → Bool
  | _, none => true
  | none, some _ => false
  | some a, some b => decide (a ≤ b)
def geOI : Option Int → Option Int → Bool
  | _, none => true
  | none, some _ => false
  | some a, some b => decide (b ≤ a)
def Sy.sub (m : Nat) : Sy → Sy → Bool
  | _, .no => true
  | .eq a x, .eq b y => a == b && x == y && decide (a < m)
  | .lt a x, .lt b y => a == b && decide (x ≤ y) && decide (a < m)
  | .eq a x, .lt b y => a == b && decide (x < y) && decide (a < m)
  | _, _ => false
def idSub (m : Nat) : Option Nat → Option Nat → Bool
  | _, none => true
  | some a, some b => a == b && decide (a < m)
  | none, some _ => false
def Kd.sub : Kd → Kd → Bool
  | .lst, .anl => true
  | .fls, .anl => true
  | a, b => a == b
def subL (f : Ty → Ty → Bool) : List Ty → List Ty → Bool
  | [], [] => true
  | a :: as, b :: bs => f a b && subL f as bs
  | _, _ => false
/-- the fixed sequence's kind -/
def Ty.fixed : Ty → Option (Kd × List Ty)
  | .tup ts => some (.tup, ts)
  | .lst ts => some (.lst, ts)
  | _ => none
/-- a lies in b, of cells below n and lengths below m -/
def Ty.sub (us : US) (n m : Nat) : Nat → Ty → Ty → Bool
  | 0, _, _ => false
  | k + 1, a, b => match a, b with
    | _, .any => true
    | .or a1 a2, b => Ty.sub us n m k a1 b && Ty.sub us n m k a2 b
    | a, .or b1 b2 => Ty.sub us n m k a b1 || Ty.sub us n m k a b2
    | .usr u, .usr w => u == w || us.into (Ty.sub us n m k) (.usr u) w
    | a, .usr w => us.into (Ty.sub us n m k) a w
    | a, .dat d e => match Ty.bd us 30 a with
      | some (d', e') => decide (d' ≤ d) && decide (e' ≤ e)
      | none => false
    | .usr u, b => Ty.sub us n m k (us.unf u) b
    | .int l h s, .int l' h' s' => geOI l l' && leOI h h' && s.sub m s'
    | .bl f t, .bl f' t' => (!f || f') && (!t || t')
    | .non, .non => true
    | .str l h i, .str l' h' i' => decide (l' ≤ l) && decide (h ≤ h') && idSub m i i'
    | .cst s, .cst s' => s == s'
    | .cst s, .str l h none => decide (l ≤ s.length) && decide (s.length ≤ h)
    | .tup as, .tup bs => subL (Ty.sub us n m k) as bs
    | .lst as, .lst bs => subL (Ty.sub us n m k) as bs
    | .tup as, .seq q t l h none => q == .tup && as.all (fun a => Ty.sub us n m k a t) && decide (l ≤ as.length) && decide (as.length ≤ h)
    | .lst as, .seq q t l h none => Kd.sub .lst q && as.all (fun a => Ty.sub us n m k a t) && decide (l ≤ as.length) && decide (as.length ≤ h)
    | .seq q t l h i, .seq q' t' l' h' i' => q.sub q' && (h == 0 || Ty.sub us n m k t t') && decide (l' ≤ l) && decide (h ≤ h') && idSub m i i'
    | .seq q t l h i, .tup [] => q == .tup && h == 0
    | .seq q t l h i, .lst [] => q == .lst && h == 0
    | .dk ks as, .dk ks' bs => decide (ks = ks') && subL (Ty.sub us n m k) as bs
    | .cell a, .cell b => a == b && decide (a < n)
    | .raw, .raw => true
    | .str _ _ _, .raw => true
    | .cst _, .raw => true
    | _, _ => false
/-- that the user's types are right -/
structure USok (U : UT) (us : US) : Prop where
  unf : ∀ u v ρ ν, U u v → (us.unf u).has U ρ ν v
  into : ∀ (f : Ty → Ty → Bool) ρ ν ρ' ν' a u v, (∀ a b v, f a b = true → a.has U ρ ν v → b.has U ρ' ν' v) → us.into f a u = true → a.has U ρ ν v → U u v
section
variable {U : UT} {us : US} {ρ ν : List Nat}
theorem int_show {i : Int} (h1 : -bigI < i) (h2 : i < bigI) : DOk 0 60 (.int i) := by
  have hb : bigI = 10 ^ 50 := rfl
  have h : i.natAbs < 10 ^ 50 := by omega
  refine ⟨rfl, Nat.le_refl _, ?_, ?_⟩
  · simp only [PyData.showable, decide_eq_true_eq]
    have : i.natAbs.log2 < 200 := by
      by_cases z : i.natAbs = 0
      · rw [z]; decide
      · rw [Nat.log2_lt z]
        exact Nat.lt_of_lt_of_le h (by decide)
    omega
  · simp only [tl]
    have := int_text_length_le10 (a := i) (k := 50) (by decide) h
    omega
theorem bdL_ok {f : Ty → Option (Nat × Nat)} (hf : ∀ t d n v, f t = some (d, n) → t.has U ρ ν v → isD v = true ∧ DOk d n (dat v)) : ∀ {ts : List Ty} {d n : Nat} {xs : List PV}, bdL f ts = some (d, n) → Ty.hasL U ρ ν ts xs →
    isDs xs = true ∧ PyData.canLayAll0 (dats xs) = true ∧ PyData.depthAll (dats xs) ≤ d ∧ PyData.showableAll (dats xs) = true ∧ tls (dats xs) ≤ n
  | [], d, n, xs, h, g => by
    simp only [Ty.hasL] at g
    subst g
    simp only [bdL, Option.some.injEq, Prod.mk.injEq] at h
    exact ⟨rfl, rfl, Nat.zero_le _, rfl, Nat.zero_le _⟩
  | t :: ts, d, n, xs, h, g => by
    simp only [Ty.hasL] at g
    obtain ⟨y, ys, rfl, a, b⟩ := g
    simp only [bdL] at h
    split at h
    · rename_i d1 n1 d2 n2 e1 e2
      simp only [Option.some.injEq, Prod.mk.injEq] at h
      obtain ⟨rfl, rfl⟩ := h
      obtain ⟨p1, p2⟩ := hf t _ _ y e1 a
      obtain ⟨q1, q2, q3, q4, q5⟩ := bdL_ok hf e2 b
      refine ⟨by simp only [isDs, p1, q1, Bool.and_self], by simp only [dats, PyData.canLayAll0, p2.lay, q2, Bool.and_self], ?_, by simp only [dats, PyData.showableAll, p2.show_, q4, Bool.and_self], ?_⟩
      · simp only [dats, PyData.depthAll]
        have := p2.deep
        omega
      · simp only [dats, tls]
        have := p2.len
        omega
    · cases h
theorem seq_dat {d n h : Nat} {xs : List PV} (hx : ∀ x ∈ xs, isD x = true ∧ DOk d n (dat x)) (hl : xs.length ≤ h) : isDs xs = true ∧ (∀ y ∈ dats xs, DOk d n y) ∧ (dats xs).length ≤ h := by
  refine ⟨?_, fun y m => ?_, by rw [dats_map, List.length_map]; exact hl⟩
  · clear hl
    induction xs with
    | nil => rfl
    | cons x xs ih => simp only [isDs, (hx x List.mem_cons_self).1, ih fun y m => hx y (List.mem_cons_of_mem _ m), Bool.and_self]
  · rw [dats_map] at m
    obtain ⟨x, mx, rfl⟩ := List.mem_map.mp m
    exact (hx x mx).2
theorem bd_ok (ok : USok U us) : ∀ (k : Nat) (t : Ty) (d n : Nat) (v : PV), Ty.bd us k t = some (d, n) → t.has U ρ ν v → isD v = true ∧ DOk d n (dat v)
  | 0, _, _, _, _, h, _ => by simp [Ty.bd] at h
  | k + 1, t, d, n, v, h, g => by
    cases t with
    | any => simp [Ty.bd] at h
    | raw => simp [Ty.bd] at h
    | dk _ _ => simp [Ty.bd] at h
    | cell _ => simp [Ty.bd] at h
    | int lo hi s =>
      cases lo with
      | none => simp [Ty.bd] at h
      | some lo =>
        cases hi with
        | none => simp [Ty.bd] at h
        | some hi =>
          simp only [Ty.bd] at h
          split at h
          · rename_i hb
            simp only [Option.some.injEq, Prod.mk.injEq] at h
            obtain ⟨rfl, rfl⟩ := h
            simp only [Ty.has] at g
            obtain ⟨i, rfl, a, b, _⟩ := g
            simp only [geO, leO] at a b
            exact ⟨rfl, int_show (by omega) (by omega)⟩
          · cases h
    | bl f t =>
      simp only [Ty.bd, Option.some.injEq, Prod.mk.injEq] at h
      obtain ⟨rfl, rfl⟩ := h
      simp only [Ty.has] at g
      obtain ⟨b, rfl, _⟩ := g
      exact ⟨rfl, rfl, Nat.le_refl _, rfl, Nat.le_refl _⟩
    | non =>
      simp only [Ty.bd, Option.some.injEq, Prod.mk.injEq] at h
      obtain ⟨rfl, rfl⟩ := h
      simp only [Ty.has] at g
      subst g
      exact ⟨rfl, rfl, Nat.le_refl _, rfl, Nat.le_refl _⟩
    | str lo hi id =>
      simp only [Ty.bd, Option.some.injEq, Prod.mk.injEq] at h
      obtain ⟨rfl, rfl⟩ := h
      simp only [Ty.has] at g
      obtain ⟨s, rfl, a, b, c, _⟩ := g
      exact ⟨rfl, a, Nat.le_refl _, rfl, by simp only [dat, tl]; omega⟩
    | cst s =>
      simp only [Ty.bd, Option.some.injEq, Prod.mk.injEq] at h
      obtain ⟨rfl, rfl⟩ := h
      simp only [Ty.has] at g
      obtain ⟨rfl, a⟩ := g
      exact ⟨rfl, a, Nat.le_refl _, rfl, by simp only [dat, tl]; omega⟩
    | tup ts =>
      simp only [Ty.bd] at h
      split at h
      · rename_i d' n' e
        simp only [Option.some.injEq, Prod.mk.injEq] at h
        obtain ⟨rfl, rfl⟩ := h
        simp only [Ty.has] at g
        obtain ⟨xs, rfl, a⟩ := g
        obtain ⟨q1, q2, q3, q4, q5⟩ := bdL_ok (fun t d n v => bd_ok ok k t d n v) e a
        exact ⟨by simpa only [isD] using q1, by simpa only [dat, PyData.canLay0] using q2, by simp only [dat, PyData.depth]; omega, by simpa only [dat, PyData.showable] using q4, by simp only [dat, tl]; omega⟩
      · cases h
    | lst ts =>
      simp only [Ty.bd] at h
      split at h
      · rename_i d' n' e
        simp only [Option.some.injEq, Prod.mk.injEq] at h
        obtain ⟨rfl, rfl⟩ := h
        simp only [Ty.has] at g
        obtain ⟨xs, rfl, a⟩ := g
        obtain ⟨q1, q2, q3, q4, q5⟩ := bdL_ok (fun t d n v => bd_ok ok k t d n v) e a
        exact ⟨by simpa only [isD] using q1, by simpa only [dat, PyData.canLay0] using q2, by simp only [dat, PyData.depth]; omega, by simpa only [dat, PyData.showable] using q4, by simp only [dat, tl]; omega⟩
      · cases h
    | seq q t lo hi id =>
      simp only [Ty.bd] at h
      split at h
      · rename_i d' n' e
        simp only [Option.some.injEq, Prod.mk.injEq] at h
        obtain ⟨rfl, rfl⟩ := h
        simp only [Ty.has] at g
        obtain ⟨xs, e2, a, b, c, hx⟩ := g
        obtain ⟨q1, q2, q3⟩ := seq_dat (fun x m => bd_ok ok k t _ _ x e (hx x m)) b
        cases q with
        | tup => cases e2; exact ⟨by simpa only [isD] using q1, by simpa only [dat] using DOk.tup q2 q3⟩
        | lst => cases e2; exact ⟨by simpa only [isD] using q1, by simpa only [dat] using DOk.lst q2 q3⟩
        | fls => cases e2; exact ⟨by simpa only [isD] using q1, by simpa only [dat] using DOk.lst q2 q3⟩
        | anl =>
          rcases e2 with rfl | rfl
          · exact ⟨by simpa only [isD] using q1, by simpa only [dat] using DOk.lst q2 q3⟩
          · exact ⟨by simpa only [isD] using q1, by simpa only [dat] using DOk.lst q2 q3⟩
      · cases h
    | usr u =>
      simp only [Ty.bd] at h
      simp only [Ty.has] at g
      exact bd_ok ok k _ d n v h (ok.unf u v ρ ν g)
    | or a b =>
      simp only [Ty.bd] at h
      split at h
      · rename_i d1 n1 d2 n2 e1 e2
        simp only [Option.some.injEq, Prod.mk.injEq] at h
        obtain ⟨rfl, rfl⟩ := h
        simp only [Ty.has] at g
        rcases g with g | g
        · have := bd_ok ok k a _ _ v e1 g
          exact ⟨this.1, this.2.mono (Nat.le_max_left _ _) (Nat.le_max_left _ _)⟩
        · have := bd_ok ok k b _ _ v e2 g
          exact ⟨this.1, this.2.mono (Nat.le_max_right _ _) (Nat.le_max_right _ _)⟩
      · cases h
    | dat d' n' =>
      simp only [Ty.bd, Option.some.injEq, Prod.mk.injEq] at h
      obtain ⟨rfl, rfl⟩ := h
      simpa only [Ty.has] using g
end
end Pv

/-! Ai2: what lies in which type, shown. -/
namespace Pv
open PySem PySem.Spec L2
section
variable {U : UT} {us : US} {ρ ν : List Nat} {n m : Nat}
theorem get_take {α : Type} {xs : List α} {i n : Nat} {a : α} (h : i < n) (e : xs[i]? = some a) : (xs.take n)[i]? = some a := by
  rw [List.getElem?_take, if_pos h]; exact e
theorem idSub_ok {a b : Option Nat} {k : Nat} (h : idSub m a b = true) (g : idOk ν a k) : idOk (ν.take m) b k := by
  cases b with
  | none => trivial
  | some b =>
    cases a with
    | none => cases h
    | some a =>
      simp only [idSub, Bool.and_eq_true, beq_iff_eq, decide_eq_true_eq] at h
      obtain ⟨rfl, h⟩ := h
      exact get_take h g
theorem Sy.sub_ok {a b : Sy} {i : Int} (h : a.sub m b = true) (g : a.ok ν i) : b.ok (ν.take m) i := by
  cases b with
  | no => trivial
  | eq id off =>
    cases a with
    | eq id' off' =>
      simp only [Sy.sub, Bool.and_eq_true, beq_iff_eq, decide_eq_true_eq] at h
      obtain ⟨⟨rfl, rfl⟩, h⟩ := h
      obtain ⟨l, e, q⟩ := g
      exact ⟨l, get_take h e, q⟩
    | _ => cases h
  | lt id off =>
    cases a with
    | eq id' off' =>
      simp only [Sy.sub, Bool.and_eq_true, beq_iff_eq, decide_eq_true_eq] at h
      obtain ⟨⟨rfl, h2⟩, h⟩ := h
      obtain ⟨l, e, q⟩ := g
      exact ⟨l, get_take h e, by omega⟩
    | lt id' off' =>
      simp only [Sy.sub, Bool.and_eq_true, beq_iff_eq, decide_eq_true_eq] at h
      obtain ⟨⟨rfl, h2⟩, h⟩ := h
      obtain ⟨l, e, q⟩ := g
      exact ⟨l, get_take h e, by omega⟩
    | _ => cases h
theorem geOI_ok {a b : Option Int} {i : Int} (h : geOI a b = true) (g : geO a i) : geO b i := by
  cases b with
  | none => trivial
  | some b =>
    cases a with
    | none => cases h
    | some a => simp only [geOI, decide_eq_true_eq] at h; simp only [geO] at g ⊢; omega
theorem leOI_ok {a b : Option Int} {i : Int} (h : leOI a b = true) (g : leO a i) : leO b i := by
  cases b with
  | none => trivial
  | some b =>
    cases a with
    | none => cases h
    | some a => simp only [leOI, decide_eq_true_eq] at h; simp only [leO] at g ⊢; omega
theorem subL_ok {ρ' ν' : List Nat} {f : Ty → Ty → Bool} (hf : ∀ a b v, f a b = true → a.has U ρ ν v → b.has U ρ' ν' v) : ∀ {as bs : List Ty} {xs : List PV}, subL f as bs = true → Ty.hasL U ρ ν as xs → Ty.hasL U ρ' ν' bs xs
  | [], [], _, _, g => by simpa only [Ty.hasL] using g
  | [], _ :: _, _, h, _ => by cases h
  | _ :: _, [], _, h, _ => by cases h
  | a :: as, b :: bs, _, h, g => by
    simp only [subL, Bool.and_eq_true] at h
    simp only [Ty.hasL] at g ⊢
    obtain ⟨y, ys, rfl, p, q⟩ := g
    exact ⟨y, ys, rfl, hf _ _ _ h.1 p, subL_ok hf h.2 q⟩
theorem allL_ok {ρ' ν' : List Nat} {f : Ty → Ty → Bool} {t : Ty} (hf : ∀ a b v, f a b = true → a.has U ρ ν v → b.has U ρ' ν' v) {as : List Ty} {xs : List PV} (h : as.all (fun a => f a t) = true) (g : Ty.hasL U ρ ν as xs) : ∀ x ∈ xs, t.has U ρ' ν' x := fun x mx => by
  obtain ⟨a, ma, ha⟩ := hasL_mem g mx
  exact hf _ _ _ (List.all_eq_true.mp h a ma) ha
theorem Kd.sub_ok {q q' : Kd} {v : PV} {xs : List PV} (h : q.sub q' = true) (g : q.is v xs) : q'.is v xs := by
  cases q <;> cases q' <;> first | exact g | exact .inl g | exact .inr g | cases h
theorem sub_ok (ok : USok U us) : ∀ (k : Nat) (a b : Ty) (v : PV), Ty.sub us n m k a b = true → a.has U ρ ν v → b.has U (ρ.take n) (ν.take m) v
  | 0, _, _, _, h, _ => by simp [Ty.sub] at h
  | k + 1, a, b, v, h, g => by
    have ih := sub_ok ok k
    unfold Ty.sub at h
    split at h
    · simp only [Ty.has]
    · simp only [Bool.and_eq_true] at h
      simp only [Ty.has] at g
      exact g.elim (ih _ _ v h.1) (ih _ _ v h.2)
    · simp only [Bool.or_eq_true] at h
      simp only [Ty.has]
      exact h.imp (fun h => ih _ _ v h g) (fun h => ih _ _ v h g)
    · simp only [Bool.or_eq_true, beq_iff_eq] at h
      rcases h with rfl | h
      · simpa only [Ty.has] using g
      · simp only [Ty.has]; exact ok.into _ ρ ν _ _ _ _ _ ih h g
    · simp only [Ty.has]; exact ok.into _ ρ ν _ _ _ _ _ ih h g
    · split at h
      · rename_i e
        simp only [Bool.and_eq_true, decide_eq_true_eq] at h
        have := bd_ok ok _ _ _ _ v e g
        simp only [Ty.has]
        exact ⟨this.1, this.2.mono h.1 h.2⟩
      · cases h
    · simp only [Ty.has] at g
      exact ih _ _ v h (ok.unf _ _ ρ ν g)
    · simp only [Bool.and_eq_true] at h
      simp only [Ty.has] at g ⊢
      obtain ⟨i, e, p, q, r⟩ := g
      exact ⟨i, e, geOI_ok h.1.1 p, leOI_ok h.1.2 q, Sy.sub_ok h.2 r⟩
    · simp only [Bool.and_eq_true, Bool.or_eq_true, Bool.not_eq_true'] at h
      simp only [Ty.has] at g ⊢
      obtain ⟨b, e, q⟩ := g
      refine ⟨b, e, ?_⟩
      cases b with
      | true => simp only [if_true] at q ⊢; rcases h.2 with z | z; rw [q] at z; cases z; exact z
      | false => simp only [Bool.false_eq_true, if_false] at q ⊢; rcases h.1 with z | z; rw [q] at z; cases z; exact z
    · simpa only [Ty.has] using g
    · simp only [Bool.and_eq_true, decide_eq_true_eq] at h
      simp only [Ty.has] at g ⊢
      obtain ⟨s, e, o, p, q, r⟩ := g
      exact ⟨s, e, o, by omega, by omega, idSub_ok h.2 r⟩
    · simp only [beq_iff_eq] at h
      subst h
      simpa only [Ty.has] using g
    · simp only [Bool.and_eq_true, decide_eq_true_eq] at h
      simp only [Ty.has] at g ⊢
      exact ⟨_, g.1, g.2, h.1, h.2, trivial⟩
    · simp only [Ty.has] at g ⊢
      obtain ⟨xs, e, q⟩ := g
      exact ⟨xs, e, subL_ok ih h q⟩
    · simp only [Ty.has] at g ⊢
      obtain ⟨xs, e, q⟩ := g
      exact ⟨xs, e, subL_ok ih h q⟩
    · simp only [Bool.and_eq_true, beq_iff_eq, decide_eq_true_eq] at h
      obtain ⟨⟨⟨rfl, h1⟩, h2⟩, h3⟩ := h
      simp only [Ty.has] at g ⊢
      obtain ⟨xs, e, q⟩ := g
      have := hasL_len q
      exact ⟨xs, e, by omega, by omega, trivial, allL_ok ih h1 q⟩
    · simp only [Bool.and_eq_true, decide_eq_true_eq] at h
      obtain ⟨⟨⟨h0, h1⟩, h2⟩, h3⟩ := h
      simp only [Ty.has] at g ⊢
      obtain ⟨xs, e, q⟩ := g
      have := hasL_len q
      exact ⟨xs, Kd.sub_ok h0 e, by omega, by omega, trivial, allL_ok ih h1 q⟩
    · simp only [Bool.and_eq_true, Bool.or_eq_true, beq_iff_eq, decide_eq_true_eq] at h
      obtain ⟨⟨⟨⟨h0, h1⟩, h2⟩, h3⟩, h4⟩ := h
      simp only [Ty.has] at g ⊢
      obtain ⟨xs, e, p, q, r, hx⟩ := g
      refine ⟨xs, Kd.sub_ok h0 e, by omega, by omega, idSub_ok h4 r, fun x mx => ?_⟩
      rcases h1 with rfl | h1
      · cases xs with
        | nil => cases mx
        | cons _ _ => simp at q
      · exact ih _ _ x h1 (hx x mx)
    · simp only [Bool.and_eq_true, beq_iff_eq] at h
      obtain ⟨rfl, rfl⟩ := h
      simp only [Ty.has, Ty.hasL] at g ⊢
      obtain ⟨xs, e, p, q, r, hx⟩ := g
      exact ⟨xs, e, List.length_eq_zero_iff.mp (by omega)⟩
    · simp only [Bool.and_eq_true, beq_iff_eq] at h
      obtain ⟨rfl, rfl⟩ := h
      simp only [Ty.has, Ty.hasL] at g ⊢
      obtain ⟨xs, e, p, q, r, hx⟩ := g
      exact ⟨xs, e, List.length_eq_zero_iff.mp (by omega)⟩
    · simp only [Bool.and_eq_true, decide_eq_true_eq] at h
      obtain ⟨rfl, h⟩ := h
      simp only [Ty.has] at g ⊢
      obtain ⟨xs, e, q⟩ := g
      exact ⟨xs, e, subL_ok ih h q⟩
    · simp only [Bool.and_eq_true, beq_iff_eq, decide_eq_true_eq] at h
      obtain ⟨rfl, h⟩ := h
      simp only [Ty.has] at g ⊢
      obtain ⟨a, e, q⟩ := g
      exact ⟨a, get_take h e, q⟩
    · simpa only [Ty.has] using g
    · simp only [Ty.has] at g ⊢
      obtain ⟨s, e, _⟩ := g
      exact ⟨s, e⟩
    · simp only [Ty.has] at g ⊢
      exact ⟨_, g.1⟩
    · cases h
end
end Pv

/-! Ai3: what is known ahead and behind: states, and which lies in which. -/
namespace Pv
open PySem PySem.Spec L2

structure AS where
  ev : List (Option Ty)
  cs : List Ty
  n : Nat
section
variable (U : UT)
structure StoIn (cs : List Ty) (n : Nat) (ρ ν : List Nat) (st : Sto) : Prop where
  rl : ρ.length = cs.length
  nd : ρ.Nodup
  nl : ν.length = n
  at_ : ∀ (k : Nat) t a, cs[k]? = some t → ρ[k]? = some a → ∃ xs, st[a]? = some (.lst xs) ∧ t.has U ρ ν (.lst xs)
structure EnvIn (ev : List (Option Ty)) (ρ ν : List Nat) (env : Envp) : Prop where
  len : env.length = ev.length
  at_ : ∀ (i : Nat) t, ev[i]? = some (some t) → ∃ v, env[i]? = some (some v) ∧ t.has U ρ ν v
end
structure Step (ρ ν : List Nat) (st : Sto) (ρ' ν' : List Nat) (st' : Sto) : Prop where
  r : ρ <+: ρ'
  n : ν <+: ν'
  g : Gr ρ st st'
  f : ∀ a ∈ ρ', a ∈ ρ ∨ st.length ≤ a
section
variable {U : UT} {ρ ρ' ρ2 ν ν' ν2 : List Nat} {st st' st2 : Sto} {cs : List Ty} {n : Nat} {ev : List (Option Ty)} {env : Envp}
theorem Step.refl : Step ρ ν st ρ ν st := ⟨List.prefix_rfl, List.prefix_rfl, .refl, fun _ h => .inl h⟩
theorem Step.trans (s : Step ρ ν st ρ' ν' st') (t : Step ρ' ν' st' ρ2 ν2 st2) : Step ρ ν st ρ2 ν2 st2 where
  r := s.r.trans t.r
  n := s.n.trans t.n
  g := ⟨Nat.le_trans s.g.1 t.g.1, fun i c h e => t.g.2 i c (fun m => by
    rcases s.f i m with z | z
    · exact h z
    · have := (List.getElem?_eq_some_iff.mp e).1; omega) (s.g.2 i c h e)⟩
  f := fun a m => by
    rcases t.f a m with z | z
    · exact s.f a z
    · exact .inr (Nat.le_trans s.g.1 z)
theorem EnvIn.ext (h : EnvIn U ev ρ ν env) (hr : ρ <+: ρ') (hn : ν <+: ν') : EnvIn U ev ρ' ν' env :=
  ⟨h.len, fun i t e => let ⟨v, a, b⟩ := h.at_ i t e; ⟨v, a, b.ext hr hn⟩⟩
theorem EnvIn.step (h : EnvIn U ev ρ ν env) (s : Step ρ ν st ρ' ν' st') : EnvIn U ev ρ' ν' env := h.ext s.r s.n
theorem StoIn.lt (h : StoIn U cs n ρ ν st) {k : Nat} {a : Nat} (e : ρ[k]? = some a) : a < st.length := by
  have hk := (List.getElem?_eq_some_iff.mp e).1
  have hl := h.rl
  obtain ⟨xs, q, _⟩ := h.at_ k (cs[k]'(by omega)) a (List.getElem?_eq_getElem _) e
  exact (List.getElem?_eq_some_iff.mp q).1
theorem StoIn.mem_lt (h : StoIn U cs n ρ ν st) {a : Nat} (m : a ∈ ρ) : a < st.length := by
  obtain ⟨k, e⟩ := List.getElem?_of_mem m
  exact h.lt e
/-- a new cell -/
theorem StoIn.new (h : StoIn U cs n ρ ν st) {t : Ty} {xs : List PV} (g : t.has U ρ ν (.lst xs)) : StoIn U (cs ++ [t]) n (ρ ++ [st.length]) ν (st ++ [.lst xs]) where
  rl := by simp [h.rl]
  nd := by
    rw [List.nodup_append]
    refine ⟨h.nd, by simp, fun a ha b hb => ?_⟩
    rw [List.mem_singleton] at hb; subst hb
    have := h.mem_lt ha
    omega
  nl := h.nl
  at_ := fun k t' a e1 e2 => by
    have hl := h.rl
    by_cases hk : k < cs.length
    · rw [List.getElem?_append_left hk] at e1
      rw [List.getElem?_append_left (by omega)] at e2
      obtain ⟨ys, q1, q2⟩ := h.at_ k t' a e1 e2
      exact ⟨ys, by rw [List.getElem?_append_left (h.lt e2)]; exact q1, q2.ext (List.prefix_append _ _) List.prefix_rfl⟩
    · rw [List.getElem?_append_right (by omega)] at e1 e2
      have z1 : k - cs.length = 0 := by
        have := (List.getElem?_eq_some_iff.mp e1).1
        simp at this; omega
      have z2 : k - ρ.length = 0 := by omega
      rw [z1] at e1; rw [z2] at e2
      simp at e1 e2; subst e1; subst e2
      exact ⟨xs, by simp, g.ext (List.prefix_append _ _) List.prefix_rfl⟩
theorem Step.new {cs : List Cell} {ts : Cell} : Step ρ ν st (ρ ++ [st.length]) ν (st ++ [ts]) :=
  ⟨List.prefix_append _ _, List.prefix_rfl, Gr.new, fun a m => by
    rcases List.mem_append.mp m with m | m
    · exact .inl m
    · rw [List.mem_singleton] at m; subst m; exact .inr (Nat.le_refl _)⟩
/-- a cell is changed -/
theorem StoIn.set (h : StoIn U cs n ρ ν st) {k a : Nat} {t : Ty} {xs : List PV} (e : ρ[k]? = some a) (g : t.has U ρ ν (.lst xs)) : StoIn U (cs.set k t) n ρ ν (st.set a (.lst xs)) where
  rl := by simp [h.rl]
  nd := h.nd
  nl := h.nl
  at_ := fun k' t' a' e1 e2 => by
    have hl := h.rl
    by_cases hk : k' = k
    · subst hk
      rw [e] at e2; cases e2
      have := (List.getElem?_eq_some_iff.mp e).1
      rw [List.getElem?_set_self (by omega)] at e1
      cases e1
      exact ⟨xs, List.getElem?_set_self (h.lt e), g⟩
    · rw [List.getElem?_set_ne (Ne.symm hk)] at e1
      obtain ⟨ys, q1, q2⟩ := h.at_ k' t' a' e1 e2
      refine ⟨ys, ?_, q2⟩
      rw [List.getElem?_set_ne]
      · exact q1
      · intro z; subst z
        have h4 := (List.getElem?_eq_some_iff.mp e2).1
        exact hk ((List.getElem?_inj h4 h.nd).mp (e2.trans e.symm))
theorem Step.set {k a : Nat} {c : Cell} (e : ρ[k]? = some a) : Step ρ ν st ρ ν (st.set a c) :=
  ⟨List.prefix_rfl, List.prefix_rfl, Gr.set (List.mem_of_getElem? e), fun _ h => .inl h⟩
theorem EnvIn.set (h : EnvIn U ev ρ ν env) {i : Nat} {t : Ty} {v : PV} (g : t.has U ρ ν v) : EnvIn U (ev.set i (some t)) ρ ν (env.set i (some v)) :=
  ⟨by simp [h.len], fun j t' e => by
    have hl := h.len
    by_cases hj : j = i
    · subst hj
      have hlt := (List.getElem?_eq_some_iff.mp e).1
      rw [List.length_set] at hlt
      rw [List.getElem?_set_self hlt] at e
      cases e
      exact ⟨v, List.getElem?_set_self (by omega), g⟩
    · rw [List.getElem?_set_ne (Ne.symm hj)] at e ⊢
      exact h.at_ j t' e⟩
/-- more is known of a slot -/
theorem EnvIn.know (h : EnvIn U ev ρ ν env) {i : Nat} {t : Ty} {v : PV} (e : env[i]? = some (some v)) (g : t.has U ρ ν v) : EnvIn U (ev.set i (some t)) ρ ν env :=
  ⟨by simp [h.len], fun j t' e' => by
    by_cases hj : j = i
    · subst hj
      have hlt := (List.getElem?_eq_some_iff.mp e').1
      rw [List.length_set] at hlt
      rw [List.getElem?_set_self hlt] at e'
      cases e'
      exact ⟨v, e, g⟩
    · rw [List.getElem?_set_ne (Ne.symm hj)] at e'
      exact h.at_ j t' e'⟩
end

/-! ### the least that holds of two -/
def minO : Option Int → Option Int → Option Int
  | some a, some b => some (if a ≤ b then a else b)
  | _, _ => none
def maxO : Option Int → Option Int → Option Int
  | some a, some b => some (if a ≤ b then b else a)
  | _, _ => none
def Kd.lub (a b : Kd) : Kd := if a = b then a else .anl
def lenB : Ty → Option (Nat × Nat)
  | .str l h _ => some (l, h)
  | .cst s => some (s.length, s.length)
  | _ => none
def lub (us : US) (n m : Nat) : Nat → Ty → Ty → Ty
  | 0, _, _ => .any
  | k + 1, a, b =>
    if Ty.sub us n m 20 a b then b else if Ty.sub us n m 20 b a then a else
    let fold := fun (ts : List Ty) => match ts with
      | [] => Ty.non
      | t :: ts => ts.foldl (lub us n m k) t
    let two := fun (x y : Ty) => match Ty.bd us 30 x, Ty.bd us 30 y with
      | some (d, e), some (d', e') => Ty.dat (max d d') (max e e')
      | _, _ => Ty.or x y
    match a, b with
    | .int l h s, .int l' h' s' => .int (minO l l') (maxO h h') (if s = s' then s else .no)
    | .bl f t, .bl f' t' => .bl (f || f') (t || t')
    | .tup as, .tup bs => if as.length = bs.length then .tup (List.zipWith (lub us n m k) as bs) else .seq .tup (fold (as ++ bs)) (min as.length bs.length) (max as.length bs.length) none
    | .lst as, .lst bs => if as.length = bs.length then .lst (List.zipWith (lub us n m k) as bs) else .seq .lst (fold (as ++ bs)) (min as.length bs.length) (max as.length bs.length) none
    | .tup as, .seq .tup t l h _ => .seq .tup (fold (t :: as)) (min as.length l) (max as.length h) none
    | .seq .tup t l h _, .tup as => .seq .tup (fold (t :: as)) (min as.length l) (max as.length h) none
    | .lst as, .seq q t l h _ => .seq (q.lub .lst) (fold (t :: as)) (min as.length l) (max as.length h) none
    | .seq q t l h _, .lst as => .seq (q.lub .lst) (fold (t :: as)) (min as.length l) (max as.length h) none
    | .seq q t l h i, .seq q' t' l' h' i' => if (q = .tup) = (q' = .tup) then .seq (q.lub q') (if h = 0 then t' else if h' = 0 then t else lub us n m k t t') (min l l') (max h h') (if i = i' then i else none) else two a b
    | .dk ks as, .dk ks' bs => if ks = ks' then .dk ks (List.zipWith (lub us n m k) as bs) else two a b
    | _, _ => match lenB a, lenB b with
      | some (l, h), some (l', h') => .str (min l l') (max h h') none
      | _, _ => two a b
/-- a type in which all of these lie -/
def upC (us : US) (n m : Nat) : List Ty → Ty
  | [] => Ty.non
  | t :: ts => ts.foldl (lub us n m 12) t
def up (us : US) (n m : Nat) (ts : List Ty) : Option Ty := if ts.all (fun t => Ty.sub us n m 25 t (upC us n m ts)) then some (upC us n m ts) else none
def lubO (us : US) (n m : Nat) : Option Ty → Option Ty → Option Ty
  | some a, some b =>
    let c := lub us n m 12 a b
    if Ty.sub us n m 25 a c && Ty.sub us n m 25 b c then some c else none
  | _, _ => none
def leO1 (us : US) (n m : Nat) : Option Ty → Option Ty → Bool
  | _, none => true
  | some a, some b => Ty.sub us n m 25 a b
  | none, some _ => false
def allLe (f : Option Ty → Option Ty → Bool) : List (Option Ty) → List (Option Ty) → Bool
  | [], [] => true
  | a :: as, b :: bs => f a b && allLe f as bs
  | _, _ => false
def csLe (f : Ty → Ty → Bool) : List Ty → List Ty → Bool
  | _, [] => true
  | a :: as, b :: bs => f a b && csLe f as bs
  | [], _ :: _ => false
/-- the first lies in the second -/
def AS.le (us : US) (S T : AS) : Bool := decide (T.n ≤ S.n) && allLe (leO1 us T.cs.length T.n) S.ev T.ev && csLe (Ty.sub us T.cs.length T.n 25) S.cs T.cs
def csLub (us : US) (n m : Nat) : List Ty → List Ty → List Ty
  | a :: as, b :: bs => lub us n m 12 a b :: csLub us n m as bs
  | _, _ => []
/-- one in which both lie, no fewer cells than the base -/
def AS.join (us : US) (c n : Nat) (S T : AS) : Option AS :=
  let k := min S.cs.length T.cs.length
  let m := min S.n T.n
  let J : AS := ⟨List.zipWith (lubO us k m) S.ev T.ev, csLub us k m S.cs T.cs, m⟩
  if decide (c ≤ J.cs.length) && decide (n ≤ J.n) && S.le us J && T.le us J then some J else none
/-- the end of a call: its value's type, the cells -/
abbrev Rt := Ty × List Ty × Nat
def Rt.le (us : US) (r q : Rt) : Bool := decide (q.2.2 ≤ r.2.2) && Ty.sub us q.2.1.length q.2.2 25 r.1 q.1 && csLe (Ty.sub us q.2.1.length q.2.2 25) r.2.1 q.2.1
def Rt.join (us : US) (c n : Nat) (r q : Rt) : Option Rt :=
  let k := min r.2.1.length q.2.1.length
  let m := min r.2.2 q.2.2
  let J : Rt := (lub us k m 12 r.1 q.1, csLub us k m r.2.1 q.2.1, m)
  if decide (c ≤ J.2.1.length) && decide (n ≤ J.2.2) && r.le us J && q.le us J then some J else none
section
variable {U : UT} {us : US} {ρ ν : List Nat} {st : Sto} {env : Envp}
theorem csLe_ok {ρ' ν' : List Nat} {f : Ty → Ty → Bool} (hf : ∀ a b v, f a b = true → a.has U ρ ν v → b.has U ρ' ν' v) : ∀ {as bs : List Ty}, csLe f as bs = true → bs.length ≤ as.length ∧ ∀ (k : Nat) b, bs[k]? = some b → ∃ a, as[k]? = some a ∧ ∀ v, a.has U ρ ν v → b.has U ρ' ν' v
  | _, [], _ => ⟨Nat.zero_le _, fun k b e => by simp at e⟩
  | [], _ :: _, h => by cases h
  | a :: as, b :: bs, h => by
    simp only [csLe, Bool.and_eq_true] at h
    obtain ⟨h1, h2⟩ := csLe_ok hf h.2
    refine ⟨by simpa using h1, fun k c e => ?_⟩
    cases k with
    | zero => simp at e; subst e; exact ⟨a, by simp, fun v => hf _ _ v h.1⟩
    | succ k => simpa using h2 k c (by simpa using e)
theorem allLe_ok {ρ' ν' : List Nat} {f : Option Ty → Option Ty → Bool} (hf : ∀ a b, f a (some b) = true → ∃ a', a = some a' ∧ ∀ v, a'.has U ρ ν v → b.has U ρ' ν' v) : ∀ {as bs : List (Option Ty)}, allLe f as bs = true → bs.length = as.length ∧ ∀ (k : Nat) b, bs[k]? = some (some b) → ∃ a, as[k]? = some (some a) ∧ ∀ v, a.has U ρ ν v → b.has U ρ' ν' v
  | [], [], _ => ⟨rfl, fun k b e => by simp at e⟩
  | [], _ :: _, h => by cases h
  | _ :: _, [], h => by cases h
  | a :: as, b :: bs, h => by
    simp only [allLe, Bool.and_eq_true] at h
    obtain ⟨h1, h2⟩ := allLe_ok hf h.2
    refine ⟨by simpa using h1, fun k c e => ?_⟩
    cases k with
    | zero =>
      simp at e; subst e
      obtain ⟨a', rfl, q⟩ := hf _ _ h.1
      exact ⟨a', by simp, q⟩
    | succ k => simpa using h2 k c (by simpa using e)
theorem sto_take {cs cs' : List Ty} {n m : Nat} (I : StoIn U cs n ρ ν st) (hn : m ≤ n) (hl : cs'.length ≤ cs.length) (h : ∀ (k : Nat) b, cs'[k]? = some b → ∃ a, cs[k]? = some a ∧ ∀ v, a.has U ρ ν v → b.has U (ρ.take cs'.length) (ν.take m) v) :
    StoIn U cs' m (ρ.take cs'.length) (ν.take m) st where
  rl := by rw [List.length_take, I.rl]; omega
  nd := I.nd.sublist (List.take_sublist _ _)
  nl := by rw [List.length_take, I.nl]; omega
  at_ := fun k t a e1 e2 => by
    obtain ⟨t', q1, q2⟩ := h k t e1
    rw [List.getElem?_take] at e2
    split at e2
    · obtain ⟨xs, p1, p2⟩ := I.at_ k t' a q1 e2
      exact ⟨xs, p1, q2 _ p2⟩
    · cases e2
theorem AS.le_ok (ok : USok U us) {S T : AS} (h : S.le us T = true) (E : EnvIn U S.ev ρ ν env) (I : StoIn U S.cs S.n ρ ν st) :
    EnvIn U T.ev (ρ.take T.cs.length) (ν.take T.n) env ∧ StoIn U T.cs T.n (ρ.take T.cs.length) (ν.take T.n) st := by
  simp only [AS.le, Bool.and_eq_true, decide_eq_true_eq] at h
  obtain ⟨⟨h1, h2⟩, h3⟩ := h
  have hsub := fun (a b : Ty) (v : PV) => sub_ok (n := T.cs.length) (m := T.n) (ρ := ρ) (ν := ν) ok 25 a b v
  obtain ⟨l1, c1⟩ := csLe_ok hsub h3
  obtain ⟨l2, c2⟩ := allLe_ok (U := U) (ρ := ρ) (ν := ν) (ρ' := ρ.take T.cs.length) (ν' := ν.take T.n) (f := leO1 us T.cs.length T.n) (fun a b h => by
    cases a with
    | none => cases h
    | some a => exact ⟨a, rfl, fun v => hsub a b v h⟩) h2
  refine ⟨⟨by rw [E.len, l2], fun i t e => ?_⟩, sto_take I h1 l1 c1⟩
  obtain ⟨a, q1, q2⟩ := c2 i t e
  obtain ⟨v, q3, q4⟩ := E.at_ i a q1
  exact ⟨v, q3, q2 v q4⟩
theorem Step.take {ρ0 ν0 : List Nat} {st0 : Sto} {k m : Nat} (s : Step ρ0 ν0 st0 ρ ν st) (hk : ρ0.length ≤ k) (hm : ν0.length ≤ m) : Step ρ0 ν0 st0 (ρ.take k) (ν.take m) st where
  r := by
    obtain ⟨t, rfl⟩ := s.r
    rw [List.take_append]
    rw [List.take_of_length_le hk]
    exact List.prefix_append _ _
  n := by
    obtain ⟨t, rfl⟩ := s.n
    rw [List.take_append]
    rw [List.take_of_length_le hm]
    exact List.prefix_append _ _
  g := s.g
  f := fun a m => s.f a (List.mem_of_mem_take m)
theorem AS.join_ok {S T J : AS} {c n : Nat} (h : AS.join us c n S T = some J) : c ≤ J.cs.length ∧ n ≤ J.n ∧ S.le us J = true ∧ T.le us J = true := by
  simp only [AS.join] at h
  split at h
  · rename_i q
    simp only [Option.some.injEq] at h
    subst h
    simp only [Bool.and_eq_true, decide_eq_true_eq] at q
    exact ⟨q.1.1.1, q.1.1.2, q.1.2, q.2⟩
  · cases h
theorem Rt.join_ok {r q J : Rt} {c n : Nat} (h : Rt.join us c n r q = some J) : c ≤ J.2.1.length ∧ n ≤ J.2.2 ∧ Rt.le us r J = true ∧ Rt.le us q J = true := by
  simp only [Rt.join] at h
  split at h
  · rename_i q
    simp only [Option.some.injEq] at h
    subst h
    simp only [Bool.and_eq_true, decide_eq_true_eq] at q
    exact ⟨q.1.1.1, q.1.1.2, q.1.2, q.2⟩
  · cases h
theorem Rt.le_ok (ok : USok U us) {r q : Rt} {v : PV} (h : Rt.le us r q = true) (I : StoIn U r.2.1 r.2.2 ρ ν st) (g : r.1.has U ρ ν v) :
    StoIn U q.2.1 q.2.2 (ρ.take q.2.1.length) (ν.take q.2.2) st ∧ q.1.has U (ρ.take q.2.1.length) (ν.take q.2.2) v := by
  simp only [Rt.le, Bool.and_eq_true, decide_eq_true_eq] at h
  obtain ⟨⟨h1, h2⟩, h3⟩ := h
  have hsub := fun (a b : Ty) (v : PV) => sub_ok (n := q.2.1.length) (m := q.2.2) (ρ := ρ) (ν := ν) ok 25 a b v
  obtain ⟨l1, c1⟩ := csLe_ok hsub h3
  exact ⟨sto_take I h1 l1 c1, hsub _ _ v h2 g⟩
theorem sub_self (ok : USok U us) {cs : List Ty} {n : Nat} (I : StoIn U cs n ρ ν st) {k : Nat} {a b : Ty} {v : PV} (h : Ty.sub us cs.length n k a b = true) (g : a.has U ρ ν v) : b.has U ρ ν v := by
  have := sub_ok ok k a b v h g
  rw [List.take_of_length_le (by rw [I.rl]; exact Nat.le_refl _), List.take_of_length_le (by rw [I.nl]; exact Nat.le_refl _)] at this
  exact this
theorem up_ok (ok : USok U us) {cs : List Ty} {n : Nat} (I : StoIn U cs n ρ ν st) {ts : List Ty} {c t : Ty} {v : PV} (h : up us cs.length n ts = some c) (m : t ∈ ts) (g : t.has U ρ ν v) : c.has U ρ ν v := by
  unfold up at h
  split at h
  · rename_i q
    cases h
    exact sub_self ok I (List.all_eq_true.mp q t m) g
  · cases h
end
end Pv

/-! Ai4: operators, built-in calls, methods, slices by types. -/
namespace Pv
open PySem PySem.Spec L2

/-! ### sequences seen alike -/
inductive SV where
  | fix (ts : List Ty) | rep (t : Ty) (lo hi : Nat)
def SV.has (U : UT) (ρ ν : List Nat) : SV → List PV → Prop
  | .fix ts, xs => Ty.hasL U ρ ν ts xs
  | .rep t lo hi, xs => lo ≤ xs.length ∧ xs.length ≤ hi ∧ ∀ x ∈ xs, t.has U ρ ν x
def SV.ty (q : Kd) : SV → Ty
  | .fix ts => match q with
    | .tup => .tup ts
    | _ => .lst ts
  | .rep t lo hi => match q with
    | .tup => .seq .tup t lo hi none
    | _ => .seq .lst t lo hi none
def SV.lo : SV → Nat
  | .fix ts => ts.length
  | .rep _ lo _ => lo
def SV.hi : SV → Nat
  | .fix ts => ts.length
  | .rep _ _ hi => hi
/-- in one type all of them -/
def SV.all (us : US) (c n : Nat) : SV → Option Ty
  | .fix ts => up us c n ts
  | .rep t _ _ => some t
def view (us : US) (cs : List Ty) : Nat → Ty → Option (Kd × Option Nat × SV)
  | 0, _ => none
  | k + 1, t => match t with
    | .tup ts => some (.tup, none, .fix ts)
    | .lst ts => some (.lst, none, .fix ts)
    | .seq q t lo hi id => some (q, id, .rep t lo hi)
    | .cell a => match cs[a]? with
      | some (.lst ts) => some (.lst, none, .fix ts)
      | some (.seq .lst t lo hi id) => some (.lst, id, .rep t lo hi)
      | _ => none
    | .usr u => view us cs k (us.unf u)
    | _ => none
structure ViewOk (st : Sto) (v : PV) (q : Kd) (xs : List PV) : Prop where
  sq : seqP st v = some xs
  ls : q ≠ .tup → lstP st v = some xs
  lv : q = .lst → lstS st v = some xs
  tp : q = .tup → v = .tup xs
def PostE (U : UT) (r : Rt) (ρ ν : List Nat) (st : Sto) (Q : PV → Sto → Prop) : Prop := ∀ ρ' ν' st' v, Step ρ ν st ρ' ν' st' → StoIn U r.2.1 r.2.2 ρ' ν' st' → r.1.has U ρ' ν' v → Q v st'
def mkL (m : Bool) (t : Ty) (cs : List Ty) (n : Nat) : Rt := match m with
  | true => (.cell cs.length, cs ++ [t], n)
  | false => (t, cs, n)
section
variable {U : UT} {us : US} {ρ ν : List Nat} {st : Sto} {cs : List Ty} {n : Nat} {Q : PV → Sto → Prop}
theorem PostE.pure {t : Ty} {v : PV} (h : PostE U (t, cs, n) ρ ν st Q) (I : StoIn U cs n ρ ν st) (g : t.has U ρ ν v) : Q v st := h _ _ _ _ .refl I g
theorem newL_ok {m : Bool} {t : Ty} {xs : List PV} (h : PostE U (mkL m t cs n) ρ ν st Q) (I : StoIn U cs n ρ ν st) (g : t.has U ρ ν (.lst xs)) : newL m xs st Q := by
  cases m with
  | true =>
    have hc : (Ty.cell cs.length).has U (ρ ++ [st.length]) ν (.ref st.length) := by
      simp only [Ty.has]
      exact ⟨st.length, by rw [← I.rl]; simp, rfl⟩
    exact h _ _ _ _ (Step.new (cs := st)) (I.new g) hc
  | false => exact PostE.pure h I g
theorem view_ok (ok : USok U us) (I : StoIn U cs n ρ ν st) : ∀ (k : Nat) (t : Ty) (q : Kd) (id : Option Nat) (s : SV) (v : PV), view us cs k t = some (q, id, s) → t.has U ρ ν v → ∃ xs, ViewOk st v q xs ∧ s.has U ρ ν xs ∧ idOk ν id xs.length
  | 0, _, _, _, _, _, h, _ => by cases h
  | k + 1, t, q, id, s, v, h, g => by
    cases t with
    | tup ts =>
      simp only [view, Option.some.injEq, Prod.mk.injEq] at h
      obtain ⟨rfl, rfl, rfl⟩ := h
      simp only [Ty.has] at g
      obtain ⟨xs, rfl, a⟩ := g
      exact ⟨xs, ⟨rfl, nofun, nofun, fun _ => rfl⟩, a, trivial⟩
    | lst ts =>
      simp only [view, Option.some.injEq, Prod.mk.injEq] at h
      obtain ⟨rfl, rfl, rfl⟩ := h
      simp only [Ty.has] at g
      obtain ⟨xs, rfl, a⟩ := g
      exact ⟨xs, ⟨rfl, fun _ => rfl, fun _ => rfl, nofun⟩, a, trivial⟩
    | seq q' t lo hi i =>
      simp only [view, Option.some.injEq, Prod.mk.injEq] at h
      obtain ⟨rfl, rfl, rfl⟩ := h
      simp only [Ty.has] at g
      obtain ⟨xs, e, a, b, c, d⟩ := g
      refine ⟨xs, ?_, ⟨a, b, d⟩, c⟩
      cases q' with
      | tup => cases e; exact ⟨rfl, nofun, nofun, fun _ => rfl⟩
      | lst => cases e; exact ⟨rfl, fun _ => rfl, fun _ => rfl, nofun⟩
      | fls => cases e; exact ⟨rfl, fun _ => rfl, nofun, nofun⟩
      | anl => rcases e with rfl | rfl <;> exact ⟨rfl, fun _ => rfl, nofun, nofun⟩
    | cell a =>
      simp only [view] at h
      simp only [Ty.has] at g
      obtain ⟨p, e, rfl⟩ := g
      split at h
      · rename_i ts hc
        simp only [Option.some.injEq, Prod.mk.injEq] at h
        obtain ⟨rfl, rfl, rfl⟩ := h
        obtain ⟨xs, q1, q2⟩ := I.at_ a _ p hc e
        simp only [Ty.has] at q2
        obtain ⟨ys, e2, q2⟩ := q2
        cases e2
        have hl : lstS st (.ref p) = some xs := by simp only [lstS, q1]
        exact ⟨xs, ⟨hl, fun _ => hl, fun _ => hl, nofun⟩, q2, trivial⟩
      · rename_i t lo hi i hc
        simp only [Option.some.injEq, Prod.mk.injEq] at h
        obtain ⟨rfl, rfl, rfl⟩ := h
        obtain ⟨xs, q1, q2⟩ := I.at_ a _ p hc e
        simp only [Ty.has] at q2
        obtain ⟨ys, e2, c1, c2, c3, c4⟩ := q2
        cases e2
        have hl : lstS st (.ref p) = some xs := by simp only [lstS, q1]
        exact ⟨xs, ⟨hl, fun _ => hl, fun _ => hl, nofun⟩, ⟨c1, c2, c4⟩, c3⟩
      · cases h
    | usr u =>
      simp only [view] at h
      simp only [Ty.has] at g
      exact view_ok ok I k _ q id s v h (ok.unf u v ρ ν g)
    | _ => cases h
theorem SV.len_ok {s : SV} {xs : List PV} (h : s.has U ρ ν xs) : s.lo ≤ xs.length ∧ xs.length ≤ s.hi := by
  cases s with
  | fix ts => have := hasL_len h; simp only [SV.lo, SV.hi]; omega
  | rep t lo hi => exact ⟨h.1, h.2.1⟩
theorem SV.all_ok (ok : USok U us) (I : StoIn U cs n ρ ν st) {s : SV} {t : Ty} {xs : List PV} (h : s.all us cs.length n = some t) (g : s.has U ρ ν xs) : ∀ x ∈ xs, t.has U ρ ν x := fun x m => by
  cases s with
  | fix ts =>
    obtain ⟨a, ma, ha⟩ := hasL_mem g m
    exact up_ok ok I h ma ha
  | rep t' lo hi => cases h; exact g.2.2 x m
theorem SV.ty_ok {s : SV} {xs : List PV} {q : Kd} {v : PV} (hv : (if q = .tup then PV.tup xs else .lst xs) = v) (g : s.has U ρ ν xs) : (s.ty q).has U ρ ν v := by
  subst hv
  cases s with
  | fix ts => cases q <;> (simp only [SV.ty, Ty.has]; exact ⟨xs, rfl, g⟩)
  | rep t lo hi => cases q <;> (simp only [SV.ty, Ty.has]; exact ⟨xs, rfl, g.1, g.2.1, trivial, g.2.2⟩)
theorem SV.tyT {s : SV} {xs : List PV} (g : s.has U ρ ν xs) : (s.ty .tup).has U ρ ν (.tup xs) := SV.ty_ok rfl g
theorem SV.tyL {s : SV} {xs : List PV} (g : s.has U ρ ν xs) : (s.ty .lst).has U ρ ν (.lst xs) := SV.ty_ok rfl g
end
def SV.app (us : US) (c n : Nat) (a b : SV) : Option SV := match a, b with
  | .fix ts, .fix us => some (.fix (ts ++ us))
  | a, b => match a.all us c n, b.all us c n with
    | some t, some t' => match up us c n [t, t'] with
      | some w => some (.rep (if a.hi = 0 then t' else if b.hi = 0 then t else w) (a.lo + b.lo) (a.hi + b.hi))
      | none => none
    | _, _ => none
section
variable {U : UT} {us : US} {ρ ν : List Nat} {st : Sto} {cs : List Ty} {n : Nat} {Q : PV → Sto → Prop}
theorem SV.app_ok (ok : USok U us) (I : StoIn U cs n ρ ν st) {a b s : SV} {xs ys : List PV} (h : SV.app us cs.length n a b = some s) (g : a.has U ρ ν xs) (g' : b.has U ρ ν ys) : s.has U ρ ν (xs ++ ys) := by
  have gen : ∀ t t' w, a.all us cs.length n = some t → b.all us cs.length n = some t' → up us cs.length n [t, t'] = some w → (SV.rep (if a.hi = 0 then t' else if b.hi = 0 then t else w) (a.lo + b.lo) (a.hi + b.hi)).has U ρ ν (xs ++ ys) := fun t t' w e1 e2 e3 => by
    have l1 := SV.len_ok g
    have l2 := SV.len_ok g'
    refine ⟨by rw [List.length_append]; omega, by rw [List.length_append]; omega, fun x m => ?_⟩
    rcases List.mem_append.mp m with m | m
    · have hx := SV.all_ok ok I e1 g x m
      have h0 : a.hi ≠ 0 := fun z => by
        cases xs with
        | nil => cases m
        | cons _ _ => simp only [List.length_cons] at l1; omega
      rw [if_neg h0]
      split
      · exact hx
      · exact up_ok ok I e3 (by simp) hx
    · have hx := SV.all_ok ok I e2 g' x m
      have h0 : b.hi ≠ 0 := fun z => by
        cases ys with
        | nil => cases m
        | cons _ _ => simp only [List.length_cons] at l2; omega
      rw [if_neg h0]
      split
      · exact hx
      · exact up_ok ok I e3 (by simp) hx
  have key : (match a.all us cs.length n, b.all us cs.length n with
    | some t, some t' => match up us cs.length n [t, t'] with
      | some w => some (SV.rep (if a.hi = 0 then t' else if b.hi = 0 then t else w) (a.lo + b.lo) (a.hi + b.hi))
      | none => none
    | _, _ => none) = some s → s.has U ρ ν (xs ++ ys) := fun h => by
    split at h
    · rename_i t t' e1 e2
      split at h
      · rename_i w e3
        cases h
        exact gen t t' w e1 e2 e3
      · cases h
    · cases h
  cases a with
  | fix ts =>
    cases b with
    | fix us => cases h; exact hasL_app g g'
    | rep _ _ _ => exact key h
  | rep _ _ _ => exact key h
end

/-! ### whole numbers -/
def addO : Option Int → Option Int → Option Int
  | some a, some b => some (a + b)
  | _, _ => none
def negO : Option Int → Option Int
  | some a => some (-a)
  | none => none
def conO : Option Int → Option Int → Option Int
  | some a, some b => if a = b then some a else none
  | _, _ => none
def Sy.add : Sy → Option Int → Sy
  | .eq id off, some k => .eq id (off + k)
  | .lt id off, some k => .lt id (off + k)
  | _, _ => .no
def min4 (a b c d : Int) : Int := min (min a b) (min c d)
def max4 (a b c d : Int) : Int := max (max a b) (max c d)
def bigM : Int := 2 ^ 64
def small64 : Option Int → Option Int → Bool
  | some l, some h => decide (-bigM < l ∧ h < bigM)
  | _, _ => false
section
variable {ν : List Nat}
theorem geO_add {a b : Option Int} {i j : Int} (h : geO a i) (g : geO b j) : geO (addO a b) (i + j) := by
  cases a <;> cases b <;> simp only [addO, geO] at * <;> omega
theorem leO_add {a b : Option Int} {i j : Int} (h : leO a i) (g : leO b j) : leO (addO a b) (i + j) := by
  cases a <;> cases b <;> simp only [addO, leO] at * <;> omega
theorem geO_neg {a : Option Int} {i : Int} (h : leO a i) : geO (negO a) (-i) := by
  cases a <;> simp only [negO, geO, leO] at * <;> omega
theorem leO_neg {a : Option Int} {i : Int} (h : geO a i) : leO (negO a) (-i) := by
  cases a <;> simp only [negO, geO, leO] at * <;> omega
theorem conO_ok {l h : Option Int} {k i : Int} (e : conO l h = some k) (a : geO l i) (b : leO h i) : i = k := by
  cases l <;> cases h <;> simp only [conO] at e <;> first | cases e | skip
  split at e
  · cases e; simp only [geO, leO] at a b; omega
  · cases e
theorem Sy.add_ok {s : Sy} {o : Option Int} {i k : Int} (h : s.ok ν i) (e : ∀ c, o = some c → k = c) : (s.add o).ok ν (i + k) := by
  cases s with
  | no => exact trivial
  | eq id off =>
    cases o with
    | none => exact trivial
    | some c =>
      obtain ⟨l, q, r⟩ := h
      have := e c rfl
      exact ⟨l, q, by omega⟩
  | lt id off =>
    cases o with
    | none => exact trivial
    | some c =>
      obtain ⟨l, q, r⟩ := h
      have := e c rfl
      exact ⟨l, q, by omega⟩
theorem mul_le1 {l h i j : Int} (a : l ≤ i) (b : i ≤ h) : min (l * j) (h * j) ≤ i * j ∧ i * j ≤ max (l * j) (h * j) := by
  by_cases hj : 0 ≤ j
  · have h1 := Int.mul_le_mul_of_nonneg_right a hj
    have h2 := Int.mul_le_mul_of_nonneg_right b hj
    omega
  · have h1 := Int.mul_le_mul_of_nonpos_right a (show j ≤ 0 by omega)
    have h2 := Int.mul_le_mul_of_nonpos_right b (show j ≤ 0 by omega)
    omega
theorem mul_in {l h l' h' i j : Int} (a : l ≤ i) (b : i ≤ h) (c : l' ≤ j) (d : j ≤ h') : min4 (l * l') (l * h') (h * l') (h * h') ≤ i * j ∧ i * j ≤ max4 (l * l') (l * h') (h * l') (h * h') := by
  have h1 := mul_le1 (j := j) a b
  have h2 := mul_le1 (j := l) c d
  have h3 := mul_le1 (j := h) c d
  unfold min4 max4
  rw [Int.mul_comm j l, Int.mul_comm l' l, Int.mul_comm h' l] at h2
  rw [Int.mul_comm j h, Int.mul_comm l' h, Int.mul_comm h' h] at h3
  omega
end
def mulO (l h l' h' : Option Int) : Option Int × Option Int := match l, h, l', h' with
  | some a, some b, some c, some d => (some (min4 (a * c) (a * d) (b * c) (b * d)), some (max4 (a * c) (a * d) (b * c) (b * d)))
  | _, _, _, _ => (none, none)
def ltO : Option Int → Option Int → Bool
  | some a, some b => decide (a < b)
  | _, _ => false
def leO' : Option Int → Option Int → Bool
  | some a, some b => decide (a ≤ b)
  | _, _ => false
/-- of cells their lists -/
def bdc (us : US) (cs : List Ty) : Ty → Option (Nat × Nat)
  | .cell k => match cs[k]? with
    | some t => Ty.bd us 30 t
    | none => none
  | t => Ty.bd us 30 t
def okD (us : US) (cs : List Ty) (t : Ty) : Bool := match bdc us cs t with
  | some (d, _) => decide (d ≤ 64)
  | none => false
def one1 : Ty → Bool
  | .str l h _ => l == 1 && h == 1
  | .cst s => s.length == 1
  | _ => false
/-- the index is within -/
def inB (l : Nat) (id : Option Nat) (lo hi : Option Int) (s : Sy) : Bool := match lo with
  | some a => (decide (0 ≤ a) && ((match hi with
      | some b => decide (b < l)
      | none => false) || (match s, id with
      | .lt j off, some j' => j == j' && decide (off ≤ 0)
      | .eq j off, some j' => j == j' && decide (off < 0)
      | _, _ => false))) || (match hi with
      | some b => decide (-(l : Int) ≤ a) && decide (b < 0)
      | none => false)
  | none => false
def idOf : Ty → Option Nat
  | .str _ _ id => id
  | _ => none
def ixA (us : US) (a b : Ty) (cs : List Ty) (n : Nat) : Option Rt := match b with
  | .int lo hi s => match lenB a with
    | some (l, h) => if decide (h ≤ sizeLine) && inB l (idOf a) lo hi s then some (.str 1 1 none, cs, n) else none
    | none => match view us cs 10 a with
      | some (_, id, sv) => match sv, conO lo hi with
        | .fix ts, some k => if 0 ≤ k then (match ts[k.toNat]? with
            | some t => some (t, cs, n)
            | none => none) else (if 0 ≤ k + ts.length then (match ts[(k + ts.length).toNat]? with
            | some t => some (t, cs, n)
            | none => none) else none)
        | .fix ts, none => match lo, hi with
          | some x, some y => if 0 ≤ x ∧ x ≤ y ∧ y < ts.length then (match up us cs.length n ((ts.drop x.toNat).take (y - x + 1).toNat) with
            | some t => some (t, cs, n)
            | none => none) else none
          | _, _ => none
        | .rep t l h, _ => if inB l id lo hi s then some (t, cs, n) else none
      | none => none
  | _ => none
def lookK : List Key → List Ty → Key → Option Ty
  | k' :: ks, t :: ts, k => if k' = k then some t else lookK ks ts k
  | _, _, _ => none
def keyOf : Ty → Option Key
  | .cst s => some (.inr s)
  | .int l h _ => (conO l h).map .inl
  | _ => none
def cmpA (sure never : Bool) : Ty := .bl (!sure) (!never)
def isInt : Ty → Option (Option Int × Option Int × Sy)
  | .int l h s => some (l, h, s)
  | _ => none
def isStr (t : Ty) : Bool := (lenB t).isSome
def isTx : Ty → Bool
  | .raw => true
  | t => isStr t
def opA (us : US) (o : OpN) (a b : Ty) (cs : List Ty) (n : Nat) : Option Rt := match o with
  | .add m => match isInt a, isInt b with
    | some (l, h, s), some (l', h', s') => some (.int (addO l l') (addO h h') (if s = .no then s'.add (conO l h) else s.add (conO l' h')), cs, n)
    | _, _ => match lenB a, lenB b with
      | some (l, h), some (l', h') => if h + h' ≤ sizeLine then some (.str (l + l') (h + h') none, cs, n) else none
      | _, _ => match view us cs 10 a, view us cs 10 b with
        | some (q, _, x), some (q', _, y) => match SV.app us cs.length n x y with
          | some z => if z.hi ≤ sizeLine then (if q = .tup ∧ q' = .tup then some (z.ty .tup, cs, n) else if q = .lst ∧ q' = .lst then some (mkL m (z.ty .lst) cs n) else none) else none
          | none => none
        | _, _ => none
  | .sub => match isInt a, isInt b with
    | some (l, h, s), some (l', h', _) => some (.int (addO l (negO h')) (addO h (negO l')) (s.add (negO (conO l' h'))), cs, n)
    | _, _ => none
  | .mul => match isInt a, isInt b with
    | some (l, h, _), some (l', h', _) => if small64 l h || small64 l' h' then some (.int (mulO l h l' h').1 (mulO l h l' h').2 .no, cs, n) else none
    | _, some (some l', some h', _) => match lenB a with
      | some (l, h) => if 0 ≤ l' ∧ h' ≤ 1 ∧ h ≤ sizeLine then some (.str (if l' = 1 then l else 0) (if h' = 0 then 0 else h) none, cs, n) else none
      | none => none
    | _, _ => none
  | .iadd => match isInt a, isInt b with
    | some (l, h, s), some (l', h', s') => some (.int (addO l l') (addO h h') (if s = .no then s'.add (conO l h) else s.add (conO l' h')), cs, n)
    | _, _ => none
  | .fdiv => match isInt a, isInt b with
    | some (l, h, _), some (some l', some h', _) => if 0 < l' ∧ h' < 1073741824 then (match l, h with
        | some l, some h => if 0 ≤ l then some (.int (some 0) (some (h / l')) .no, cs, n) else some (.int none none .no, cs, n)
        | _, _ => some (.int none none .no, cs, n)) else none
    | _, _ => none
  | .mod => match isInt a, isInt b with
    | some _, some (some l', h', s) => if 0 < l' then some (.int (some 0) (addO h' (some (-1))) (match s with
        | .eq id off => .lt id off
        | _ => .no), cs, n) else none
    | _, _ => none
  | .pow => match isInt a, isInt b with
    | some (l, h, _), some (l', h', _) => match conO l h, conO l' h' with
      | some i, some j => if 0 ≤ j ∧ j ≤ 1000 ∧ i.natAbs < 2 ^ 64 then some (.int (some (i ^ j.toNat)) (some (i ^ j.toNat)) .no, cs, n) else none
      | _, _ => none
    | _, _ => none
  | .lt => match isInt a, isInt b with
    | some (l, h, _), some (l', h', _) => some (cmpA (ltO h l') (leO' h' l), cs, n)
    | _, _ => if isStr a && isStr b then some (.bl true true, cs, n) else none
  | .le => match isInt a, isInt b with
    | some (l, h, _), some (l', h', _) => some (cmpA (leO' h l') (ltO h' l), cs, n)
    | _, _ => if isStr a && isStr b then some (.bl true true, cs, n) else none
  | .gt => match isInt a, isInt b with
    | some (l, h, _), some (l', h', _) => some (cmpA (ltO h' l) (leO' h l'), cs, n)
    | _, _ => if isStr a && isStr b then some (.bl true true, cs, n) else none
  | .ge => match isInt a, isInt b with
    | some (l, h, _), some (l', h', _) => some (cmpA (leO' h' l) (ltO h l'), cs, n)
    | _, _ => if isStr a && isStr b then some (.bl true true, cs, n) else none
  | .eq => if (isTx a && isTx b) || (okD us cs a && okD us cs b) then some (.bl true true, cs, n) else none
  | .ne => if (isTx a && isTx b) || (okD us cs a && okD us cs b) then some (.bl true true, cs, n) else none
  | .inL => match view us cs 10 b with
    | some (q, _, _) => if decide (q ≠ .tup) && okD us cs a && okD us cs b then some (.bl true true, cs, n) else none
    | none => none
  | .notIn => match view us cs 10 b with
    | some (q, _, _) => if decide (q ≠ .tup) && okD us cs a && okD us cs b then some (.bl true true, cs, n) else none
    | none => none
  | .inS => if one1 a && isStr b then some (.bl true true, cs, n) else none
  | .isN => match a, b with
    | .non, .non => some (.bl false true, cs, n)
    | a, .non => match Ty.bd us 30 a with
      | some _ => some (.bl true true, cs, n)
      | none => none
    | _, _ => none
  | .notN => match a, b with
    | .non, .non => some (.bl true false, cs, n)
    | a, .non => match Ty.bd us 30 a with
      | some _ => some (.bl true true, cs, n)
      | none => none
    | _, _ => none
  | .ix => ixA us a b cs n
  | .dget => match a, keyOf b with
    | .dk ks ts, some k => match lookK ks ts k with
      | some t => some (t, cs, n)
      | none => none
    | _, _ => none
section
variable {U : UT} {us : US} {ρ ν : List Nat} {st : Sto} {cs : List Ty} {n : Nat} {Q : PV → Sto → Prop}
theorem isInt_ok {t : Ty} {l h : Option Int} {s : Sy} {v : PV} (e : isInt t = some (l, h, s)) (g : t.has U ρ ν v) : ∃ i, v = .int i ∧ geO l i ∧ leO h i ∧ s.ok ν i := by
  cases t <;> first | (simp only [isInt, Option.some.injEq, Prod.mk.injEq] at e; obtain ⟨rfl, rfl, rfl⟩ := e; simpa only [Ty.has] using g) | cases e
theorem lenB_ok {t : Ty} {l h : Nat} {v : PV} (e : lenB t = some (l, h)) (g : t.has U ρ ν v) : ∃ s, v = .str s ∧ PyData.strOk s = true ∧ l ≤ s.length ∧ s.length ≤ h := by
  cases t <;> first | cases e | skip
  · simp only [Ty.has] at g
    obtain ⟨s, a, b, c, d, _⟩ := g
    exact ⟨s, a, b, c, d⟩
  · simp only [Ty.has] at g
    exact ⟨_, g.1, g.2, Nat.le_refl _, Nat.le_refl _⟩
theorem isStr_ok {t : Ty} {v : PV} (e : isStr t = true) (g : t.has U ρ ν v) : ∃ s, v = .str s ∧ PyData.strOk s = true := by
  unfold isStr at e
  cases h : lenB t with
  | none => rw [h] at e; cases e
  | some p => obtain ⟨s, a, b, _⟩ := lenB_ok (l := p.1) (h := p.2) h g; exact ⟨s, a, b⟩
theorem isTx_ok {t : Ty} {v : PV} (e : isTx t = true) (g : t.has U ρ ν v) : ∃ s, v = .str s := by
  cases t <;> first | exact (isStr_ok (ρ := ρ) (ν := ν) (U := U) (t := _) (v := v) e g).imp fun _ h => h.1 | (simp only [Ty.has] at g; exact g)
theorem okD_ok (ok : USok U us) (I : StoIn U cs n ρ ν st) {t : Ty} {v : PV} (e : okD us cs t = true) (g : t.has U ρ ν v) : ∃ d, datS st v = some d ∧ SeqAt.shaped d = true := by
  have plain : ∀ t v, (∃ p, Ty.bd us 30 t = some p ∧ p.1 ≤ 64) → t.has U ρ ν v → ∃ d, datS st v = some d ∧ SeqAt.shaped d = true := fun t v ⟨p, e, hp⟩ g => by
    have := bd_ok ok 30 t p.1 p.2 v e g
    refine ⟨dat v, ?_, this.2.shaped hp⟩
    cases v with
    | ref _ => exact absurd this.1 (by simp [isD])
    | dk _ _ => exact absurd this.1 (by simp [isD])
    | _ => simp only [datS, this.1, if_true]
  unfold okD at e
  split at e
  · rename_i d m hb
    simp only [decide_eq_true_eq] at e
    cases t with
    | cell k =>
      simp only [bdc] at hb
      split at hb
      · rename_i t hc
        simp only [Ty.has] at g
        obtain ⟨a, e1, rfl⟩ := g
        obtain ⟨xs, q1, q2⟩ := I.at_ k t a hc e1
        have := bd_ok ok 30 t d m _ hb q2
        refine ⟨.list (dats xs), ?_, ?_⟩
        · have h1 : isDs xs = true := by simpa only [isD] using this.1
          simp only [datS, lstS, q1, h1, if_true]
        · have := this.2.shaped e
          simpa only [dat] using this
      · cases hb
    | _ => exact plain _ v ⟨(d, m), (by simpa only [bdc] using hb), e⟩ g
  · cases e
theorem bl_any {b : Bool} : (Ty.bl true true).has U ρ ν (.bl b) := by simp only [Ty.has]; exact ⟨b, rfl, by cases b <;> rfl⟩
theorem cmpA_ok {sure never b : Bool} (h1 : sure = true → b = true) (h2 : never = true → b = false) : (cmpA sure never).has U ρ ν (.bl b) := by
  simp only [cmpA, Ty.has]
  refine ⟨b, rfl, ?_⟩
  cases b with
  | true =>
    cases never with
    | true => exact absurd (h2 rfl) (by decide)
    | false => rfl
  | false =>
    cases sure with
    | true => exact absurd (h1 rfl) (by decide)
    | false => rfl
theorem ltO_ok {a b : Option Int} {i j : Int} (h : ltO a b = true) (h1 : leO a i) (h2 : geO b j) : i < j := by
  cases a <;> cases b <;> simp only [ltO, decide_eq_true_eq] at h <;> first | cases h | (simp only [leO, geO] at *; omega)
theorem leO'_ok {a b : Option Int} {i j : Int} (h : leO' a b = true) (h1 : leO a i) (h2 : geO b j) : i ≤ j := by
  cases a <;> cases b <;> simp only [leO', decide_eq_true_eq] at h <;> first | cases h | (simp only [leO, geO] at *; omega)
theorem atI_in {α : Type} {xs : List α} {i : Int} (h : (0 ≤ i ∧ i < xs.length) ∨ (-(xs.length : Int) ≤ i ∧ i < 0)) : ∃ j : Nat, j < xs.length ∧ atI xs i = xs[j]? ∧ (0 ≤ i → (j : Int) = i) ∧ (i < 0 → (j : Int) = i + xs.length) := by
  unfold atI ixN
  rcases h with h | h
  · rw [if_pos h.1, if_pos h.2]
    exact ⟨i.toNat, by omega, rfl, fun _ => by omega, fun _ => by omega⟩
  · rw [if_neg (by omega), if_pos h.1]
    exact ⟨(i + xs.length).toNat, by omega, rfl, fun _ => by omega, fun _ => by omega⟩
theorem inB_ok {l len : Nat} {id : Option Nat} {lo hi : Option Int} {s : Sy} {i : Int} (h : inB l id lo hi s = true) (hl : l ≤ len) (hid : idOk ν id len) (a : geO lo i) (b : leO hi i) (c : s.ok ν i) : (0 ≤ i ∧ i < len) ∨ (-(len : Int) ≤ i ∧ i < 0) := by
  unfold inB at h
  cases lo with
  | none => cases h
  | some x =>
    simp only [geO] at a
    simp only [Bool.or_eq_true, Bool.and_eq_true, decide_eq_true_eq] at h
    rcases h with ⟨h0, h | h⟩ | h
    · cases hi with
      | none => cases h
      | some y => simp only [leO] at b; simp only [decide_eq_true_eq] at h; exact .inl ⟨by omega, by omega⟩
    · cases s with
      | no => cases h
      | lt j off =>
        cases id with
        | none => cases h
        | some j' =>
          simp only [Bool.and_eq_true, beq_iff_eq, decide_eq_true_eq] at h
          obtain ⟨rfl, h⟩ := h
          obtain ⟨l, q, r⟩ := c
          have : some l = some len := q.symm.trans hid
          cases this
          exact .inl ⟨by omega, by omega⟩
      | eq j off =>
        cases id with
        | none => cases h
        | some j' =>
          simp only [Bool.and_eq_true, beq_iff_eq, decide_eq_true_eq] at h
          obtain ⟨rfl, h⟩ := h
          obtain ⟨l, q, r⟩ := c
          have : some l = some len := q.symm.trans hid
          cases this
          exact .inl ⟨by omega, by omega⟩
    · cases hi with
      | none => cases h
      | some y =>
        simp only [leO] at b
        simp only [Bool.and_eq_true, decide_eq_true_eq] at h
        by_cases hz : 0 ≤ i
        · omega
        · exact .inr ⟨by omega, by omega⟩
theorem ix_of {v u : PV} {xs : List PV} {i : Int} (h : seqP st v = some xs) (h2 : atI xs i = some u) (q : Q u st) : ixR v (.int i) st Q := ix_seq h h2 q
theorem hasL_range : ∀ {ts : List Ty} {xs : List PV} {j x c : Nat}, Ty.hasL U ρ ν ts xs → x ≤ j → j < x + c → j < xs.length → ∃ t ∈ (ts.drop x).take c, ∃ v, xs[j]? = some v ∧ t.has U ρ ν v := fun {ts xs j x c} h h1 h2 h3 => by
  have hl := hasL_len h
  have ht : ts[j]? = some (ts[j]'(by omega)) := List.getElem?_eq_getElem _
  obtain ⟨v, q1, q2⟩ := hasL_get h ht
  refine ⟨_, ?_, v, q1, q2⟩
  refine List.mem_of_getElem? (i := j - x) ?_
  rw [List.getElem?_take, if_pos (by omega), List.getElem?_drop, show x + (j - x) = j by omega]
  exact ht
theorem ixA_ok (ok : USok U us) (I : StoIn U cs n ρ ν st) {a b : Ty} {r : Rt} {x y : PV} (h : ixA us a b cs n = some r) (ga : a.has U ρ ν x) (gb : b.has U ρ ν y) (k : PostE U r ρ ν st Q) : ixR x y st Q := by
  cases b <;> first | cases h | skip
  rename_i lo hi s
  simp only [Ty.has] at gb
  obtain ⟨i, rfl, b1, b2, b3⟩ := gb
  simp only [ixA] at h
  split at h
  · rename_i l hh e
    split at h
    · rename_i hb
      cases h
      simp only [Bool.and_eq_true, decide_eq_true_eq] at hb
      obtain ⟨s', rfl, o1, o2, o3⟩ := lenB_ok e ga
      have hid : idOk ν (idOf a) s'.length := by
        cases a with
        | str _ _ id =>
          simp only [Ty.has] at ga
          obtain ⟨s2, e2, _, _, _, q⟩ := ga
          cases e2; exact q
        | _ => exact trivial
      obtain ⟨j, hj, ej, _, _⟩ := atI_in (xs := s'.cps.toList) (i := i) (by
        have := inB_ok hb.2 o2 hid b1 b2 b3
        simpa [Str.length] using this)
      refine ⟨i, rfl, s'.cps.toList[j], by omega, by rw [ej]; exact List.getElem?_eq_getElem hj, k.pure I ?_⟩
      simp only [Ty.has]
      refine ⟨_, rfl, ?_, Nat.le_refl _, Nat.le_refl _, trivial⟩
      have := Array.all_eq_true_iff_forall_mem.mp o1 s'.cps.toList[j] (Array.mem_toList_iff.mp (List.getElem_mem hj))
      show (#[s'.cps.toList[j]] : Array Nat).all _ = true
      simpa using this
    · cases h
  · split at h
    · rename_i q id sv hv
      obtain ⟨xs, V, S, hid⟩ := view_ok ok I 10 a q id sv x hv ga
      split at h
      · rename_i ts c hc
        have hi' := conO_ok hc b1 b2
        subst hi'
        have hl := hasL_len S
        split at h
        · split at h
          · rename_i h0 t ht
            cases h
            obtain ⟨v, q1, q2⟩ := hasL_get S ht
            refine ix_of V.sq ?_ (k.pure I q2)
            have := atI_nat q1
            rwa [show ((i.toNat : Nat) : Int) = i by omega] at this
          · cases h
        · split at h
          · split at h
            · rename_i h0 h1 t ht
              cases h
              obtain ⟨v, q1, q2⟩ := hasL_get S ht
              obtain ⟨j, hj, ej, _, e2⟩ := atI_in (xs := xs) (i := i) (.inr ⟨by omega, by omega⟩)
              refine ix_of V.sq ?_ (k.pure I q2)
              rw [ej, show j = (i + ts.length).toNat by have := e2 (by omega); omega]
              exact q1
            · cases h
          · cases h
      · rename_i ts hc
        split at h
        · rename_i x' y' 
          split at h
          · rename_i hr
            split at h
            · rename_i t ht
              cases h
              simp only [geO, leO] at b1 b2
              have hl := hasL_len S
              obtain ⟨t', m, v, q1, q2⟩ := hasL_range (j := i.toNat) (x := x'.toNat) (c := (y' - x' + 1).toNat) S (by omega) (by omega) (by omega)
              refine ix_of V.sq ?_ (k.pure I (up_ok ok I ht m q2))
              have := atI_nat q1
              rwa [show ((i.toNat : Nat) : Int) = i by omega] at this
            · cases h
          · cases h
        · cases h
      · rename_i t l hh
        split at h
        · rename_i hb
          cases h
          obtain ⟨j, hj, ej, _, _⟩ := atI_in (xs := xs) (i := i) (inB_ok hb S.1 hid b1 b2 b3)
          exact ix_of V.sq (ej.trans (List.getElem?_eq_getElem hj)) (k.pure I (S.2.2 _ (List.getElem_mem hj)))
        · cases h
    · cases h
end
end Pv

/-! Ai5: operators by types are right; built-in calls, methods, slices. -/
namespace Pv
open PySem PySem.Spec L2
section
variable {U : UT} {us : US} {ρ ν : List Nat} {st : Sto} {cs : List Ty} {n : Nat} {Q : PV → Sto → Prop}
theorem add_lst {m : Bool} {x y : PV} {xs ys : List PV} (hx : lstS st x = some xs) (hy : lstS st y = some ys) (hl : xs.length + ys.length ≤ sizeLine) (q : newL m (xs ++ ys) st Q) : addR m x y st Q := by
  have : ∃ xs ys, lstS st x = some xs ∧ lstS st y = some ys ∧ xs.length + ys.length ≤ sizeLine ∧ newL m (xs ++ ys) st Q := ⟨xs, ys, hx, hy, hl, q⟩
  cases x <;> cases y <;> first | exact this | cases hx | cases hy
theorem lookK_ok : ∀ {ks : List Key} {ts : List Ty} {xs : List PV} {k : Key} {t : Ty}, Ty.hasL U ρ ν ts xs → lookK ks ts k = some t → ∃ v, getP ks xs k = some v ∧ t.has U ρ ν v
  | [], _, _, _, _, _, e => by simp [lookK] at e
  | _ :: _, [], _, _, _, _, e => by simp [lookK] at e
  | k' :: ks, t' :: ts, xs, k, t, h, e => by
    simp only [Ty.hasL] at h
    obtain ⟨y, ys, rfl, a, b⟩ := h
    simp only [lookK] at e
    simp only [getP]
    split at e
    · cases e
      rename_i hk
      exact ⟨y, by rw [if_pos hk], a⟩
    · rename_i hk
      obtain ⟨v, q1, q2⟩ := lookK_ok b e
      exact ⟨v, by rw [if_neg hk]; exact q1, q2⟩
theorem keyOf_ok {t : Ty} {k : Key} {v : PV} (e : keyOf t = some k) (g : t.has U ρ ν v) : kP v = some k := by
  cases t <;> first | cases e | skip
  · rename_i l h s
    simp only [keyOf, Option.map_eq_some_iff] at e
    obtain ⟨i, e, rfl⟩ := e
    simp only [Ty.has] at g
    obtain ⟨j, rfl, a, b, _⟩ := g
    rw [conO_ok e a b]; rfl
  · simp only [Ty.has] at g
    rw [g.1]; rfl
theorem isN_ok {v : PV} (h : isD v = true) (q : ∀ b, Q (.bl b) st) : isNR v .non st Q := by
  cases v <;> first | exact ⟨rfl, q _⟩ | (simp [isD] at h)
theorem notN_ok {v : PV} (h : isD v = true) (q : ∀ b, Q (.bl b) st) : notNR v .non st Q := by
  cases v <;> first | exact ⟨rfl, q _⟩ | (simp [isD] at h)
theorem lst_dat {x : PV} {xs : List PV} {d : PyData} (h : lstP st x = some xs) (e : datS st x = some d) : ∃ ds, d = .list ds := by
  cases x with
  | fls ys =>
    simp only [datS] at e
    split at e
    · cases e; simp only [dat]; exact ⟨_, rfl⟩
    · cases e
  | lst ys =>
    simp only [datS] at e
    split at e
    · cases e; simp only [dat]; exact ⟨_, rfl⟩
    · cases e
  | ref a =>
    simp only [datS] at e
    split at e
    · split at e
      · cases e; exact ⟨_, rfl⟩
      · cases e
    · cases e
  | _ => cases h
theorem opA_ok (ok : USok U us) (I : StoIn U cs n ρ ν st) {o : OpN} {a b : Ty} {r : Rt} {x y : PV} (h : opA us o a b cs n = some r) (ga : a.has U ρ ν x) (gb : b.has U ρ ν y) (k : PostE U r ρ ν st Q) : o.den x y st Q := by
  cases o with
  | add m =>
    simp only [opA] at h
    split at h
    · rename_i l hh s l' hh' s' e1 e2
      cases h
      obtain ⟨i, rfl, a1, a2, a3⟩ := isInt_ok e1 ga
      obtain ⟨j, rfl, b1, b2, b3⟩ := isInt_ok e2 gb
      refine k.pure I ?_
      simp only [Ty.has]
      refine ⟨_, rfl, geO_add a1 b1, leO_add a2 b2, ?_⟩
      split
      · rw [Int.add_comm]
        exact Sy.add_ok b3 fun c hc => conO_ok hc a1 a2
      · exact Sy.add_ok a3 fun c hc => conO_ok hc b1 b2
    · split at h
      · rename_i l hh l' hh' e1 e2
        split at h
        · rename_i hz
          cases h
          obtain ⟨s, rfl, a1, a2, a3⟩ := lenB_ok e1 ga
          obtain ⟨s', rfl, b1, b2, b3⟩ := lenB_ok e2 gb
          refine ⟨by omega, k.pure I ?_⟩
          simp only [Ty.has]
          exact ⟨_, rfl, strOk_app a1 b1, by rw [len_app]; omega, by rw [len_app]; omega, trivial⟩
        · cases h
      · split at h
        · rename_i q _ u q' _ w e1 e2
          split at h
          · rename_i z hz
            obtain ⟨xs, V, S, _⟩ := view_ok ok I 10 a q _ u x e1 ga
            obtain ⟨ys, V', S', _⟩ := view_ok ok I 10 b q' _ w y e2 gb
            have Z := SV.app_ok ok I hz S S'
            have lz := SV.len_ok Z
            rw [List.length_append] at lz
            split at h
            · rename_i hs
              split at h
              · rename_i hq
                cases h
                obtain ⟨rfl, rfl⟩ := hq
                cases V.tp rfl
                cases V'.tp rfl
                exact ⟨by omega, k.pure I (SV.tyT Z)⟩
              · split at h
                · rename_i hq
                  cases h
                  obtain ⟨rfl, rfl⟩ := hq
                  exact add_lst (V.lv rfl) (V'.lv rfl) (by omega) (newL_ok k I (SV.tyL Z))
                · cases h
            · cases h
          · cases h
        · cases h
  | sub =>
    simp only [opA] at h
    split at h
    · rename_i l hh s l' hh' s' e1 e2
      cases h
      obtain ⟨i, rfl, a1, a2, a3⟩ := isInt_ok e1 ga
      obtain ⟨j, rfl, b1, b2, b3⟩ := isInt_ok e2 gb
      refine ⟨i, j, rfl, rfl, k.pure I ?_⟩
      simp only [Ty.has]
      rw [Int.sub_eq_add_neg]
      refine ⟨_, rfl, geO_add a1 (geO_neg b2), leO_add a2 (leO_neg b1), Sy.add_ok a3 fun c hc => ?_⟩
      cases hq : conO l' hh' with
      | none => rw [hq] at hc; cases hc
      | some d => rw [hq] at hc; cases hc; rw [conO_ok hq b1 b2]
    · cases h
  | mul =>
    simp only [opA] at h
    split at h
    · rename_i l hh s l' hh' s' e1 e2
      split at h
      · rename_i hs
        cases h
        obtain ⟨i, rfl, a1, a2, a3⟩ := isInt_ok e1 ga
        obtain ⟨j, rfl, b1, b2, b3⟩ := isInt_ok e2 gb
        have sm : ∀ {l h : Option Int} {i : Int}, small64 l h = true → geO l i → leO h i → -(2 ^ 64) < i ∧ i < 2 ^ 64 := fun {l h i} hs g1 g2 => by
          cases l <;> cases h <;> simp only [small64, decide_eq_true_eq] at hs <;> first | cases hs | skip
          simp only [geO, leO] at g1 g2
          have : bigM = 2 ^ 64 := rfl
          omega
        refine ⟨?_, k.pure I ?_⟩
        · simp only [Bool.or_eq_true] at hs
          exact hs.imp (fun h => sm h a1 a2) fun h => sm h b1 b2
        · simp only [Ty.has]
          refine ⟨_, rfl, ?_, ?_, trivial⟩
          all_goals
            cases l <;> cases hh <;> cases l' <;> cases hh' <;> simp only [mulO, geO, leO] at * <;> first | trivial | exact (mul_in a1 a2 b1 b2).1 | exact (mul_in a1 a2 b1 b2).2
      · cases h
    · rename_i l' hh' s' e2 _
      split at h
      · rename_i l hh e1
        split at h
        · rename_i hb
          cases h
          obtain ⟨z, rfl, o1, o2, o3⟩ := lenB_ok e1 ga
          obtain ⟨j, rfl, b1, b2, b3⟩ := isInt_ok e2 gb
          simp only [geO, leO] at b1 b2
          have hj : j = 0 ∨ j = 1 := by omega
          refine ⟨?_, k.pure I ?_⟩
          · rcases hj with rfl | rfl
            · exact ⟨by decide, fun h => absurd (by decide) h, fun h => absurd (by decide) h⟩
            · exact ⟨by decide, fun _ h => by simp at h, fun _ h => by simp at h⟩
          · simp only [Ty.has]
            rcases hj with rfl | rfl
            · refine ⟨Str.empty, rfl, by decide +kernel, ?_, ?_, trivial⟩
              · rw [if_neg (by omega)]; exact Nat.zero_le _
              · show 0 ≤ _; exact Nat.zero_le _
            · refine ⟨z, rfl, o1, ?_, ?_, trivial⟩
              · split <;> omega
              · rw [if_neg (by omega)]; exact o3
        · cases h
      · cases h
    · cases h
  | iadd =>
    simp only [opA] at h
    split at h
    · rename_i l hh s l' hh' s' e1 e2
      cases h
      obtain ⟨i, rfl, a1, a2, a3⟩ := isInt_ok e1 ga
      obtain ⟨j, rfl, b1, b2, b3⟩ := isInt_ok e2 gb
      refine ⟨i, j, rfl, rfl, k.pure I ?_⟩
      simp only [Ty.has]
      refine ⟨_, rfl, geO_add a1 b1, leO_add a2 b2, ?_⟩
      split
      · rw [Int.add_comm]
        exact Sy.add_ok b3 fun c hc => conO_ok hc a1 a2
      · exact Sy.add_ok a3 fun c hc => conO_ok hc b1 b2
    · cases h
  | fdiv =>
    simp only [opA] at h
    split at h
    · rename_i l hh s l' hh' s' e1 e2
      split at h
      · rename_i hb
        obtain ⟨i, rfl, a1, a2, a3⟩ := isInt_ok e1 ga
        obtain ⟨j, rfl, b1, b2, b3⟩ := isInt_ok e2 gb
        simp only [geO, leO] at b1 b2
        refine ⟨i, j, rfl, rfl, ⟨by omega, by omega⟩, ?_⟩
        have anyI : (Ty.int none none .no).has U ρ ν (.int (i / j)) := by simp only [Ty.has]; exact ⟨_, rfl, trivial, trivial, trivial⟩
        split at h
        · rename_i l0 h0
          split at h
          · rename_i hl
            cases h
            refine k.pure I ?_
            simp only [geO, leO] at a1 a2
            simp only [Ty.has, geO, leO]
            refine ⟨_, rfl, Int.ediv_nonneg (by omega) (by omega), ?_, trivial⟩
            refine Int.le_trans (Int.ediv_le_ediv (by omega) a2) ?_
            refine Int.le_ediv_of_mul_le (by omega) ?_
            have h1 : h0 / j * l' ≤ h0 / j * j := Int.mul_le_mul_of_nonneg_left b1 (Int.ediv_nonneg (by omega) (by omega))
            have h2 : h0 / j * j ≤ h0 := Int.ediv_mul_le h0 (by omega)
            omega
          · cases h; exact k.pure I anyI
        · cases h; exact k.pure I anyI
      · cases h
    · cases h
  | mod =>
    simp only [opA] at h
    split at h
    · rename_i p l' hh' s' e1 e2
      split at h
      · rename_i hb
        cases h
        obtain ⟨i, rfl, a1, a2, a3⟩ := isInt_ok (l := p.1) (h := p.2.1) (s := p.2.2) e1 ga
        obtain ⟨j, rfl, b1, b2, b3⟩ := isInt_ok e2 gb
        simp only [geO] at b1
        have hm := Int.emod_lt_of_pos i (show 0 < j by omega)
        have hm0 := Int.emod_nonneg i (show j ≠ 0 by omega)
        refine ⟨i, j, rfl, rfl, by omega, k.pure I ?_⟩
        simp only [Ty.has]
        refine ⟨_, rfl, hm0, ?_, ?_⟩
        · cases hh' with
          | none => trivial
          | some c => simp only [leO, addO] at *; omega
        · cases s' with
          | eq id off => obtain ⟨l, q, r⟩ := b3; exact ⟨l, q, by omega⟩
          | _ => exact trivial
      · cases h
    · cases h
  | pow =>
    simp only [opA] at h
    split at h
    · rename_i l hh s l' hh' s' e1 e2
      split at h
      · rename_i c d c1 c2
        split at h
        · rename_i hb
          cases h
          obtain ⟨i, rfl, a1, a2, a3⟩ := isInt_ok e1 ga
          obtain ⟨j, rfl, b1, b2, b3⟩ := isInt_ok e2 gb
          have := conO_ok c1 a1 a2
          subst this
          have := conO_ok c2 b1 b2
          subst this
          refine ⟨i, j, rfl, rfl, ⟨by omega, by omega, hb.2.2⟩, k.pure I ?_⟩
          simp only [Ty.has]
          exact ⟨_, rfl, Int.le_refl _, Int.le_refl _, trivial⟩
        · cases h
      · cases h
    · cases h
  | lt =>
    simp only [opA] at h
    split at h
    · rename_i l hh s l' hh' s' e1 e2
      cases h
      obtain ⟨i, rfl, a1, a2, a3⟩ := isInt_ok e1 ga
      obtain ⟨j, rfl, b1, b2, b3⟩ := isInt_ok e2 gb
      exact k.pure I (cmpA_ok (fun z => decide_eq_true (ltO_ok z a2 b1)) fun z => decide_eq_false (by have := leO'_ok z b2 a1; omega))
    · split at h
      · rename_i hs
        cases h
        simp only [Bool.and_eq_true] at hs
        obtain ⟨s, rfl, _⟩ := isStr_ok hs.1 ga
        obtain ⟨s', rfl, _⟩ := isStr_ok hs.2 gb
        exact k.pure I bl_any
      · cases h
  | le =>
    simp only [opA] at h
    split at h
    · rename_i l hh s l' hh' s' e1 e2
      cases h
      obtain ⟨i, rfl, a1, a2, a3⟩ := isInt_ok e1 ga
      obtain ⟨j, rfl, b1, b2, b3⟩ := isInt_ok e2 gb
      exact k.pure I (cmpA_ok (fun z => decide_eq_true (leO'_ok z a2 b1)) fun z => decide_eq_false (by have := ltO_ok z b2 a1; omega))
    · split at h
      · rename_i hs
        cases h
        simp only [Bool.and_eq_true] at hs
        obtain ⟨s, rfl, _⟩ := isStr_ok hs.1 ga
        obtain ⟨s', rfl, _⟩ := isStr_ok hs.2 gb
        exact k.pure I bl_any
      · cases h
  | gt =>
    simp only [opA] at h
    split at h
    · rename_i l hh s l' hh' s' e1 e2
      cases h
      obtain ⟨i, rfl, a1, a2, a3⟩ := isInt_ok e1 ga
      obtain ⟨j, rfl, b1, b2, b3⟩ := isInt_ok e2 gb
      exact k.pure I (cmpA_ok (fun z => decide_eq_true (ltO_ok z b2 a1)) fun z => decide_eq_false (by have := leO'_ok z a2 b1; omega))
    · split at h
      · rename_i hs
        cases h
        simp only [Bool.and_eq_true] at hs
        obtain ⟨s, rfl, _⟩ := isStr_ok hs.1 ga
        obtain ⟨s', rfl, _⟩ := isStr_ok hs.2 gb
        exact k.pure I bl_any
      · cases h
  | ge =>
    simp only [opA] at h
    split at h
    · rename_i l hh s l' hh' s' e1 e2
      cases h
      obtain ⟨i, rfl, a1, a2, a3⟩ := isInt_ok e1 ga
      obtain ⟨j, rfl, b1, b2, b3⟩ := isInt_ok e2 gb
      exact k.pure I (cmpA_ok (fun z => decide_eq_true (leO'_ok z b2 a1)) fun z => decide_eq_false (by have := ltO_ok z a2 b1; omega))
    · split at h
      · rename_i hs
        cases h
        simp only [Bool.and_eq_true] at hs
        obtain ⟨s, rfl, _⟩ := isStr_ok hs.1 ga
        obtain ⟨s', rfl, _⟩ := isStr_ok hs.2 gb
        exact k.pure I bl_any
      · cases h
  | eq =>
    simp only [opA] at h
    split at h
    · rename_i hs
      cases h
      simp only [Bool.or_eq_true, Bool.and_eq_true] at hs
      rcases hs with hs | hs
      · obtain ⟨s, rfl⟩ := isTx_ok hs.1 ga
        obtain ⟨s', rfl⟩ := isTx_ok hs.2 gb
        exact k.pure I bl_any
      obtain ⟨d, e1, s1⟩ := okD_ok ok I hs.1 ga
      obtain ⟨d', e2, s2⟩ := okD_ok ok I hs.2 gb
      have gen : eqR x y st Q := ⟨d, d', e1, e2, s1, s2, k.pure I bl_any⟩
      show eqA x y st Q
      unfold eqA
      split
      · exact k.pure I bl_any
      · exact gen
    · cases h
  | ne =>
    simp only [opA] at h
    split at h
    · rename_i hs
      cases h
      simp only [Bool.or_eq_true, Bool.and_eq_true] at hs
      rcases hs with hs | hs
      · obtain ⟨s, rfl⟩ := isTx_ok hs.1 ga
        obtain ⟨s', rfl⟩ := isTx_ok hs.2 gb
        exact k.pure I bl_any
      obtain ⟨d, e1, s1⟩ := okD_ok ok I hs.1 ga
      obtain ⟨d', e2, s2⟩ := okD_ok ok I hs.2 gb
      have gen : neR x y st Q := ⟨d, d', e1, e2, s1, s2, k.pure I bl_any⟩
      show neA x y st Q
      unfold neA
      split
      · exact k.pure I bl_any
      · exact gen
    · cases h
  | inL =>
    simp only [opA] at h
    split at h
    · rename_i q _ sv e1
      split at h
      · rename_i hs
        cases h
        simp only [Bool.and_eq_true, decide_eq_true_eq] at hs
        obtain ⟨d, e2, s1⟩ := okD_ok ok I hs.1.2 ga
        obtain ⟨d', e3, s2⟩ := okD_ok ok I hs.2 gb
        obtain ⟨xs, V, _⟩ := view_ok ok I 10 b q _ sv y e1 gb
        obtain ⟨ds, rfl⟩ := lst_dat (V.ls hs.1.1) e3
        exact ⟨d, ds, e2, e3, s1, s2, k.pure I bl_any⟩
      · cases h
    · cases h
  | notIn =>
    simp only [opA] at h
    split at h
    · rename_i q _ sv e1
      split at h
      · rename_i hs
        cases h
        simp only [Bool.and_eq_true, decide_eq_true_eq] at hs
        obtain ⟨d, e2, s1⟩ := okD_ok ok I hs.1.2 ga
        obtain ⟨d', e3, s2⟩ := okD_ok ok I hs.2 gb
        obtain ⟨xs, V, _⟩ := view_ok ok I 10 b q _ sv y e1 gb
        obtain ⟨ds, rfl⟩ := lst_dat (V.ls hs.1.1) e3
        exact ⟨d, ds, e2, e3, s1, s2, k.pure I bl_any⟩
      · cases h
    · cases h
  | inS =>
    simp only [opA] at h
    split at h
    · rename_i hs
      cases h
      simp only [Bool.and_eq_true] at hs
      obtain ⟨s', rfl, _⟩ := isStr_ok hs.2 gb
      have : ∃ s : Str, x = .str s ∧ s.length = 1 := by
        have h1 := hs.1
        cases a <;> first | cases h1 | skip
        · simp only [one1, Bool.and_eq_true, beq_iff_eq] at h1
          simp only [Ty.has] at ga
          obtain ⟨s, rfl, _, p, q, _⟩ := ga
          exact ⟨s, rfl, by omega⟩
        · simp only [one1, beq_iff_eq] at h1
          simp only [Ty.has] at ga
          exact ⟨_, ga.1, h1⟩
      obtain ⟨s, rfl, hl⟩ := this
      obtain ⟨⟨l⟩⟩ := s
      cases l with
      | nil => cases hl
      | cons c l =>
        cases l with
        | nil => exact ⟨c, s', rfl, rfl, k.pure I bl_any⟩
        | cons d l => simp [Str.length] at hl
    · cases h
  | isN =>
    simp only [opA] at h
    split at h
    · cases h
      simp only [Ty.has] at ga gb
      subst ga; subst gb
      exact ⟨rfl, k.pure I (by simp only [Ty.has]; exact ⟨true, rfl, rfl⟩)⟩
    · split at h
      · rename_i p hp
        cases h
        simp only [Ty.has] at gb
        subst gb
        exact isN_ok (bd_ok ok 30 _ p.1 p.2 x hp ga).1 fun b => k.pure I bl_any
      · cases h
    · cases h
  | notN =>
    simp only [opA] at h
    split at h
    · cases h
      simp only [Ty.has] at ga gb
      subst ga; subst gb
      exact ⟨rfl, k.pure I (by simp only [Ty.has]; exact ⟨false, rfl, rfl⟩)⟩
    · split at h
      · rename_i p hp
        cases h
        simp only [Ty.has] at gb
        subst gb
        exact notN_ok (bd_ok ok 30 _ p.1 p.2 x hp ga).1 fun b => k.pure I bl_any
      · cases h
    · cases h
  | ix => exact ixA_ok ok I h ga gb k
  | dget =>
    simp only [opA] at h
    split at h
    · rename_i ks ts kk e1
      split at h
      · rename_i t ht
        cases h
        simp only [Ty.has] at ga
        obtain ⟨xs, rfl, gl⟩ := ga
        obtain ⟨v, q1, q2⟩ := lookK_ok gl ht
        exact ⟨ks, xs, kk, v, rfl, keyOf_ok e1 gb, q1, k.pure I q2⟩
      · cases h
    · cases h
end
end Pv

/-! Ai6: built-in calls, methods, slices by types. -/
namespace Pv
open PySem PySem.Spec L2
def maxLo : Option Int → Option Int → Option Int
  | some a, some b => some (max a b)
  | some a, none => some a
  | none, b => b
def minHi : Option Int → Option Int → Option Int
  | some a, some b => some (min a b)
  | some a, none => some a
  | none, b => b
def maxHi : Option Int → Option Int → Option Int
  | some a, some b => some (max a b)
  | _, _ => none
def minLo : Option Int → Option Int → Option Int
  | some a, some b => some (min a b)
  | _, _ => none
def SV.zip (us : US) (c n : Nat) : SV → SV → Option SV
  | .fix ts, .fix us => some (.fix ((ts.zip us).map fun p => .tup [p.1, p.2]))
  | a, b => match a.all us c n, b.all us c n with
    | some t, some t' => some (.rep (.tup [t, t']) (min a.lo b.lo) (min a.hi b.hi))
    | _, _ => none
def isBl : Ty → Bool
  | .bl _ _ => true
  | _ => false
def SV.rev : SV → SV
  | .fix ts => .fix ts.reverse
  | .rep t lo hi => .rep t lo hi
def caA (us : US) (r : CaN) (ts : List Ty) (cs : List Ty) (n : Nat) : Option Rt := match r, ts with
  | .len, [t] => match lenB t with
    | some (l, h) => if h ≤ sizeLine then some (.int (some l) (some h) (match idOf t with
      | some id => .eq id 0
      | none => .no), cs, n) else none
    | none => match view us cs 10 t with
      | some (_, id, sv) => some (.int (some sv.lo) (some sv.hi) (match id with
        | some id => .eq id 0
        | none => .no), cs, n)
      | none => none
  | .tuple, [t] => match view us cs 10 t with
    | some (_, _, sv) => some (sv.ty .tup, cs, n)
    | none => none
  | .list m, [t] => match view us cs 10 t with
    | some (_, _, sv) => some (mkL m (sv.ty .lst) cs n)
    | none => none
  | .rev m, [t] => match view us cs 10 t with
    | some (q, _, sv) => if q = .tup then none else some (mkL m (sv.rev.ty .lst) cs n)
    | none => none
  | .all, [t] => match view us cs 10 t with
    | some (q, _, sv) => match sv.all us cs.length n with
      | some e => if decide (q ≠ .tup) && (isBl e || sv.hi == 0) then some (.bl true true, cs, n) else none
      | none => none
    | none => none
  | .any, [t] => match view us cs 10 t with
    | some (q, _, sv) => match sv.all us cs.length n with
      | some e => if decide (q ≠ .tup) && (isBl e || sv.hi == 0) then some (.bl true true, cs, n) else none
      | none => none
    | none => none
  | .sum, [t] => match view us cs 10 t with
    | some (q, _, sv) => match sv.all us cs.length n with
      | some (.int (some l) (some h) _) => if q ≠ .tup ∧ 0 ≤ l ∧ 0 ≤ h then some (.int (some 0) (some (h * sv.hi)) .no, cs, n) else none
      | _ => none
    | none => none
  | .int, [t] => match t with
    | .int l h s => some (.int l h s, cs, n)
    | .bl f t => some (.int (some (if f then 0 else 1)) (some (if t then 1 else 0)) .no, cs, n)
    | _ => none
  | .max2, [a, b] => match isInt a, isInt b with
    | some (l, h, _), some (l', h', _) => some (.int (maxLo l l') (maxHi h h') .no, cs, n)
    | _, _ => none
  | .min2, [a, b] => match isInt a, isInt b with
    | some (l, h, _), some (l', h', _) => some (.int (minLo l l') (minHi h h') .no, cs, n)
    | _, _ => none
  | .repr, [t] => match bdc us cs t with
    | some (d, m) => if d ≤ 64 ∧ m ≤ sizeLine then some (.raw, cs, n) else none
    | none => none
  | .zipL m, [a, b] => match view us cs 10 a, view us cs 10 b with
    | some (q, _, x), some (q', _, y) => match SV.zip us cs.length n x y with
      | some z => if q ≠ .tup ∧ q' ≠ .tup then some (mkL m (z.ty .lst) cs n) else none
      | none => none
    | _, _ => none
  | _, _ => none
section
variable {U : UT} {us : US} {ρ ν : List Nat} {st : Sto} {cs : List Ty} {n : Nat} {Q : PV → Sto → Prop}
theorem len_seq {x : PV} {xs : List PV} (h : seqP st x = some xs) (q : Q (.int xs.length) st) : lenR [x] st Q := r_len h q
theorem idOf_ok {t : Ty} {s : Str} (g : t.has U ρ ν (.str s)) : idOk ν (idOf t) s.length := by
  cases t <;> first | exact trivial | skip
  simp only [Ty.has] at g
  obtain ⟨s2, e2, _, _, _, q⟩ := g
  cases e2
  exact q
theorem hasL_one {t : Ty} {vs : List PV} (h : Ty.hasL U ρ ν [t] vs) : ∃ v, vs = [v] ∧ t.has U ρ ν v := by
  simp only [Ty.hasL] at h
  obtain ⟨y, ys, rfl, a, rfl⟩ := h
  exact ⟨y, rfl, a⟩
theorem hasL_two {t u : Ty} {vs : List PV} (h : Ty.hasL U ρ ν [t, u] vs) : ∃ v w, vs = [v, w] ∧ t.has U ρ ν v ∧ u.has U ρ ν w := by
  simp only [Ty.hasL] at h
  obtain ⟨y, ys, rfl, a, z, zs, rfl, b, rfl⟩ := h
  exact ⟨y, z, rfl, a, b⟩
theorem bls_of {e : Ty} {f t : Bool} (he : e = .bl f t) : ∀ {xs : List PV}, (∀ x ∈ xs, e.has U ρ ν x) → ∃ bs, xs = pBls bs
  | [], _ => ⟨[], rfl⟩
  | x :: xs, h => by
    obtain ⟨bs, e1⟩ := bls_of he (xs := xs) fun y m => h y (List.mem_cons_of_mem _ m)
    have hx := h x List.mem_cons_self
    rw [he] at hx
    simp only [Ty.has] at hx
    obtain ⟨b, e2, _⟩ := hx
    exact ⟨b :: bs, by rw [e1, e2]; rfl⟩
theorem bls_of' {e : Ty} {sv : SV} {xs : List PV} (ok : USok U us) (I : StoIn U cs n ρ ν st) (h : sv.all us cs.length n = some e) (hb : (isBl e || sv.hi == 0) = true) (S : sv.has U ρ ν xs) : ∃ bs, xs = pBls bs := by
  simp only [Bool.or_eq_true, beq_iff_eq] at hb
  rcases hb with hb | hb
  · cases e <;> first | cases hb | skip
    exact bls_of rfl (SV.all_ok ok I h S)
  · have := SV.len_ok S
    cases xs with
    | nil => exact ⟨[], rfl⟩
    | cons _ _ => simp only [List.length_cons] at this; omega
theorem ints_of {l h : Int} {s : Sy} : ∀ {xs : List PV}, (∀ x ∈ xs, (Ty.int (some l) (some h) s).has U ρ ν x) → ∃ ns : List Int, xs = pInts ns ∧ ns.length = xs.length ∧ ∀ i ∈ ns, l ≤ i ∧ i ≤ h
  | [], _ => ⟨[], rfl, rfl, nofun⟩
  | x :: xs, g => by
    obtain ⟨bs, e1, e2, e3⟩ := ints_of (xs := xs) fun y m => g y (List.mem_cons_of_mem _ m)
    have hx := g x List.mem_cons_self
    simp only [Ty.has, geO, leO] at hx
    obtain ⟨i, e4, a, b, _⟩ := hx
    exact ⟨i :: bs, by rw [e1, e4]; rfl, by simp [e2], fun j m => (List.mem_cons.mp m).elim (fun z => by subst z; exact ⟨a, b⟩) (e3 j)⟩
theorem sum_in {l h : Int} (hl : 0 ≤ l) : ∀ {ns : List Int}, (∀ i ∈ ns, l ≤ i ∧ i ≤ h) → 0 ≤ ns.sum ∧ ns.sum ≤ h * ns.length
  | [], _ => by simp
  | i :: ns, g => by
    obtain ⟨a, b⟩ := sum_in hl (ns := ns) fun j m => g j (List.mem_cons_of_mem _ m)
    have := g i List.mem_cons_self
    simp only [List.sum_cons, List.length_cons]
    rw [show (((ns.length + 1 : Nat)) : Int) = (ns.length : Int) + 1 by omega, Int.mul_add]
    omega
theorem bdc_ok (ok : USok U us) (I : StoIn U cs n ρ ν st) {t : Ty} {v : PV} {d m : Nat} (e : bdc us cs t = some (d, m)) (g : t.has U ρ ν v) : ∃ x, datS st v = some x ∧ DOk d m x := by
  have plain : ∀ t v, Ty.bd us 30 t = some (d, m) → t.has U ρ ν v → ∃ x, datS st v = some x ∧ DOk d m x := fun t v e g => by
    have := bd_ok ok 30 t d m v e g
    refine ⟨dat v, ?_, this.2⟩
    cases v with
    | ref _ => exact absurd this.1 (by simp [isD])
    | dk _ _ => exact absurd this.1 (by simp [isD])
    | _ => simp only [datS, this.1, if_true]
  cases t with
  | cell k =>
    simp only [bdc] at e
    split at e
    · rename_i t hc
      simp only [Ty.has] at g
      obtain ⟨a, e1, rfl⟩ := g
      obtain ⟨xs, q1, q2⟩ := I.at_ k t a hc e1
      have := bd_ok ok 30 t d m _ e q2
      refine ⟨.list (dats xs), ?_, by simpa only [dat] using this.2⟩
      have h1 : isDs xs = true := by simpa only [isD] using this.1
      simp only [datS, lstS, q1, h1, if_true]
    · cases e
  | _ => exact plain _ v (by simpa only [bdc] using e) g
theorem hasL_zip : ∀ {ts us : List Ty} {xs ys : List PV}, Ty.hasL U ρ ν ts xs → Ty.hasL U ρ ν us ys → Ty.hasL U ρ ν ((ts.zip us).map fun p => .tup [p.1, p.2]) (zipP xs ys)
  | [], _, _, _, h, _ => by simp only [Ty.hasL] at h; subst h; simp [zipP, Ty.hasL]
  | _ :: _, [], _, _, _, g => by simp only [Ty.hasL] at g; subst g; simp [zipP, Ty.hasL]
  | t :: ts, u :: us, _, _, h, g => by
    simp only [Ty.hasL] at h g
    obtain ⟨x, xs, rfl, a, b⟩ := h
    obtain ⟨y, ys, rfl, c, d⟩ := g
    have ih := hasL_zip b d
    simp only [List.zip_cons_cons, List.map_cons, Ty.hasL, zipP] at ih ⊢
    refine ⟨_, _, rfl, ?_, ih⟩
    simp only [Ty.has, Ty.hasL]
    exact ⟨_, rfl, _, _, rfl, a, _, _, rfl, c, rfl⟩
theorem SV.zip_ok (ok : USok U us) (I : StoIn U cs n ρ ν st) {a b z : SV} {xs ys : List PV} (h : SV.zip us cs.length n a b = some z) (S : a.has U ρ ν xs) (S' : b.has U ρ ν ys) : z.has U ρ ν (zipP xs ys) := by
  have key : (match a.all us cs.length n, b.all us cs.length n with
    | some t, some t' => some (SV.rep (.tup [t, t']) (min a.lo b.lo) (min a.hi b.hi))
    | _, _ => none) = some z → z.has U ρ ν (zipP xs ys) := fun h => by
    split at h
    · rename_i t t' e1 e2
      cases h
      have l1 := SV.len_ok S
      have l2 := SV.len_ok S'
      have hl : (zipP xs ys).length = min xs.length ys.length := by simp [zipP]
      refine ⟨by omega, by omega, fun x m => ?_⟩
      unfold zipP at m
      obtain ⟨p, hp, rfl⟩ := List.mem_map.mp m
      simp only [Ty.has, Ty.hasL]
      exact ⟨_, rfl, _, _, rfl, SV.all_ok ok I e1 S _ (List.of_mem_zip hp).1, _, _, rfl, SV.all_ok ok I e2 S' _ (List.of_mem_zip hp).2, rfl⟩
    · cases h
  cases a with
  | fix ts =>
    cases b with
    | fix us => cases h; exact hasL_zip S S'
    | rep _ _ _ => exact key h
  | rep _ _ _ => exact key h
theorem hasL_rev {U : UT} {ρ ν : List Nat} : ∀ {ts : List Ty} {xs : List PV}, Ty.hasL U ρ ν ts xs → Ty.hasL U ρ ν ts.reverse xs.reverse
  | [], _, h => by simp only [Ty.hasL] at h; subst h; simp [Ty.hasL]
  | t :: ts, _, h => by
    simp only [Ty.hasL] at h
    obtain ⟨y, zs, rfl, a, b⟩ := h
    rw [List.reverse_cons, List.reverse_cons]
    exact hasL_app (hasL_rev b) (by simp only [Ty.hasL]; exact ⟨y, [], rfl, a, rfl⟩)
theorem SV.rev_ok {U : UT} {ρ ν : List Nat} {s : SV} {xs : List PV} (h : s.has U ρ ν xs) : s.rev.has U ρ ν xs.reverse := by
  cases s with
  | fix ts => exact hasL_rev h
  | rep t lo hi => exact ⟨by rw [List.length_reverse]; exact h.1, by rw [List.length_reverse]; exact h.2.1, fun x m => h.2.2 x (List.mem_reverse.mp m)⟩
theorem caA_ok (ok : USok U us) (I : StoIn U cs n ρ ν st) {c : CaN} {ts : List Ty} {r : Rt} {vs : List PV} (h : caA us c ts cs n = some r) (g : Ty.hasL U ρ ν ts vs) (k : PostE U r ρ ν st Q) : c.den vs st Q := by
  unfold caA at h
  split at h
  · obtain ⟨v, rfl, gv⟩ := hasL_one g
    rename_i t
    split at h
    · rename_i l hh e
      split at h
      · rename_i hz
        cases h
        obtain ⟨s, rfl, o1, o2, o3⟩ := lenB_ok e gv
        refine ⟨_, rfl, by omega, k.pure I ?_⟩
        simp only [Ty.has, geO, leO]
        refine ⟨_, rfl, by omega, by omega, ?_⟩
        have q := idOf_ok gv
        revert q
        cases idOf t with
        | none => exact fun _ => trivial
        | some id => exact fun q => ⟨_, q, by omega⟩
      · cases h
    · split at h
      · rename_i q id sv hv
        cases h
        obtain ⟨xs, V, S, hid⟩ := view_ok ok I 10 t q id sv v hv gv
        have hl := SV.len_ok S
        refine len_seq V.sq (k.pure I ?_)
        simp only [Ty.has, geO, leO]
        refine ⟨_, rfl, by omega, by omega, ?_⟩
        cases id with
        | none => exact trivial
        | some id => exact ⟨_, hid, by omega⟩
      · cases h
  · obtain ⟨v, rfl, gv⟩ := hasL_one g
    split at h
    · rename_i q id sv hv
      cases h
      obtain ⟨xs, V, S, hid⟩ := view_ok ok I 10 _ q id sv v hv gv
      exact ⟨v, xs, rfl, V.sq, k.pure I (SV.tyT S)⟩
    · cases h
  · obtain ⟨v, rfl, gv⟩ := hasL_one g
    split at h
    · rename_i q id sv hv
      cases h
      obtain ⟨xs, V, S, hid⟩ := view_ok ok I 10 _ q id sv v hv gv
      exact ⟨v, xs, rfl, V.sq, newL_ok k I (SV.tyL S)⟩
    · cases h
  · obtain ⟨v, rfl, gv⟩ := hasL_one g
    split at h
    · rename_i q id sv hv
      split at h
      · cases h
      · rename_i hq
        cases h
        obtain ⟨xs, V, S, hid⟩ := view_ok ok I 10 _ q id sv v hv gv
        exact ⟨xs, V.ls hq, newL_ok k I (SV.tyL (SV.rev_ok S))⟩
    · cases h
  · obtain ⟨v, rfl, gv⟩ := hasL_one g
    split at h
    · rename_i q id sv hv
      split at h
      · rename_i e he
        split at h
        · rename_i hb
          cases h
          simp only [Bool.and_eq_true, decide_eq_true_eq] at hb
          obtain ⟨xs, V, S, hid⟩ := view_ok ok I 10 _ q id sv v hv gv
          obtain ⟨bs, rfl⟩ := bls_of' ok I he hb.2 S
          exact ⟨v, bs, rfl, V.ls hb.1, k.pure I bl_any⟩
        · cases h
      · cases h
    · cases h
  · obtain ⟨v, rfl, gv⟩ := hasL_one g
    split at h
    · rename_i q id sv hv
      split at h
      · rename_i e he
        split at h
        · rename_i hb
          cases h
          simp only [Bool.and_eq_true, decide_eq_true_eq] at hb
          obtain ⟨xs, V, S, hid⟩ := view_ok ok I 10 _ q id sv v hv gv
          obtain ⟨bs, rfl⟩ := bls_of' ok I he hb.2 S
          exact ⟨v, bs, rfl, V.ls hb.1, k.pure I bl_any⟩
        · cases h
      · cases h
    · cases h
  · obtain ⟨v, rfl, gv⟩ := hasL_one g
    split at h
    · rename_i q id sv hv
      split at h
      · rename_i l hh s he
        split at h
        · rename_i hb
          cases h
          obtain ⟨xs, V, S, hid⟩ := view_ok ok I 10 _ q id sv v hv gv
          obtain ⟨ns, rfl, e2, e3⟩ := ints_of (SV.all_ok ok I he S)
          have hl := SV.len_ok S
          obtain ⟨s1, s2⟩ := sum_in hb.2.1 e3
          refine ⟨v, ns, rfl, V.ls hb.1, k.pure I ?_⟩
          simp only [Ty.has, geO, leO]
          refine ⟨_, rfl, s1, Int.le_trans s2 (Int.mul_le_mul_of_nonneg_left (by omega) hb.2.2), trivial⟩
        · cases h
      · cases h
    · cases h
  · obtain ⟨v, rfl, gv⟩ := hasL_one g
    split at h
    · cases h
      have gv' := gv
      simp only [Ty.has] at gv
      obtain ⟨i, rfl, _⟩ := gv
      exact ⟨_, rfl, k.pure I gv'⟩
    · cases h
      simp only [Ty.has] at gv
      obtain ⟨b, rfl, hb⟩ := gv
      refine ⟨_, rfl, k.pure I ?_⟩
      simp only [Ty.has, geO, leO]
      refine ⟨_, rfl, ?_, ?_, trivial⟩
      · cases b with
        | true => simp only [if_true]; split <;> omega
        | false => simp only [Bool.false_eq_true, if_false] at hb ⊢; rw [if_pos hb]; omega
      · cases b with
        | true => simp only [if_true] at hb ⊢; rw [if_pos hb]; omega
        | false => simp only [Bool.false_eq_true, if_false]; split <;> omega
    · cases h
  · obtain ⟨v, w, rfl, gv, gw⟩ := hasL_two g
    split at h
    · rename_i l hh s l' hh' s' e1 e2
      cases h
      obtain ⟨i, rfl, a1, a2, a3⟩ := isInt_ok e1 gv
      obtain ⟨j, rfl, b1, b2, b3⟩ := isInt_ok e2 gw
      refine ⟨i, j, rfl, k.pure I ?_⟩
      simp only [Ty.has]
      refine ⟨_, rfl, ?_, ?_, trivial⟩
      · cases l <;> cases l' <;> simp only [maxLo, geO] at * <;> split <;> omega
      · cases hh <;> cases hh' <;> simp only [maxHi, leO] at * <;> first | trivial | (split <;> omega)
    · cases h
  · obtain ⟨v, w, rfl, gv, gw⟩ := hasL_two g
    split at h
    · rename_i l hh s l' hh' s' e1 e2
      cases h
      obtain ⟨i, rfl, a1, a2, a3⟩ := isInt_ok e1 gv
      obtain ⟨j, rfl, b1, b2, b3⟩ := isInt_ok e2 gw
      refine ⟨i, j, rfl, k.pure I ?_⟩
      simp only [Ty.has]
      refine ⟨_, rfl, ?_, ?_, trivial⟩
      · cases l <;> cases l' <;> simp only [minLo, geO] at * <;> first | trivial | (split <;> omega)
      · cases hh <;> cases hh' <;> simp only [minHi, leO] at * <;> split <;> omega
    · cases h
  · obtain ⟨v, rfl, gv⟩ := hasL_one g
    split at h
    · rename_i d m hb
      split at h
      · rename_i hz
        cases h
        obtain ⟨x, e, D⟩ := bdc_ok ok I hb gv
        refine ⟨v, x, rfl, e, D.show_, Nat.le_trans D.deep hz.1, D.shown hz.2, k.pure I ?_⟩
        simp only [Ty.has]
        exact ⟨_, rfl⟩
      · cases h
    · cases h
  · obtain ⟨v, w, rfl, gv, gw⟩ := hasL_two g
    split at h
    · rename_i q _ a q' _ b e1 e2
      split at h
      · rename_i z hz
        split at h
        · rename_i hq
          cases h
          obtain ⟨xs, V, S, _⟩ := view_ok ok I 10 _ q _ a v e1 gv
          obtain ⟨ys, V', S', _⟩ := view_ok ok I 10 _ q' _ b w e2 gw
          exact ⟨v, w, xs, ys, rfl, V.ls hq.1, V'.ls hq.2, newL_ok k I (SV.tyL (SV.zip_ok ok I hz S S'))⟩
        · cases h
      · cases h
    · cases h
  · cases h
end
end Pv

/-! Ai7: slices, methods, truth, what is walked, by types. -/
namespace Pv
open PySem PySem.Spec L2
abbrev Pt := Option (Option Int × Option Int)
def Pt.ok : Pt → Option Int → Prop
  | none, o => o = none
  | some (a, b), o => ∃ i, o = some i ∧ geO a i ∧ leO b i
/-- how many are left of l to h -/
def cutN (l h : Nat) (lo hi : Pt) : Nat × Nat :=
  let s : Option (Nat × Nat) := match lo with
    | none => some (0, 0)
    | some (some a, some b) => if 0 ≤ a then some (a.toNat, b.toNat) else none
    | _ => none
  let e : Option (Nat × Nat) := match hi with
    | none => some (l, h)
    | some (some c, some d) => if 0 ≤ c then some (min c.toNat l, min d.toNat h) else none
    | _ => none
  match s, e with
  | some (a, b), some (c, d) => (c - b, d - min a l)
  | _, _ => (0, h)
def Pt.con : Pt → Option (Option Int)
  | none => some none
  | some (a, b) => match conO a b with
    | some k => some (some k)
    | none => none
theorem sIx_pos {n d : Nat} {i : Int} (h : 0 ≤ i) : HT.sIx n d (some i) = min i.toNat n := by
  obtain ⟨k, rfl⟩ := Int.eq_ofNat_of_zero_le h
  rw [HT.sIx_nat]; simp
theorem cut_bounds {l h n : Nat} {lo hi : Pt} {a b : Option Int} (hl : l ≤ n) (hh : n ≤ h) (ha : lo.ok a) (hb : hi.ok b) :
    (cutN l h lo hi).1 ≤ HT.sIx n n b - HT.sIx n 0 a ∧ HT.sIx n n b - HT.sIx n 0 a ≤ (cutN l h lo hi).2 := by
  have gen : 0 ≤ HT.sIx n n b - HT.sIx n 0 a ∧ HT.sIx n n b - HT.sIx n 0 a ≤ h := by
    have := HT.sIx_le n n (Nat.le_refl _) b
    omega
  unfold cutN
  dsimp only
  split
  · rename_i x y c d e1 e2
    have h1 : x ≤ y ∧ (∃ z, HT.sIx n 0 a = min z n ∧ x ≤ z ∧ z ≤ y) := by
      split at e1
      · cases e1
        cases ha
        exact ⟨Nat.le_refl _, 0, by rw [HT.sIx_none]; omega, by omega, by omega⟩
      · split at e1
        · rename_i p q h0
          cases e1
          obtain ⟨i, rfl, g1, g2⟩ := ha
          simp only [geO, leO] at g1 g2
          exact ⟨by omega, i.toNat, by rw [sIx_pos (by omega)], by omega, by omega⟩
        · cases e1
      · cases e1
    have h2 : c ≤ HT.sIx n n b ∧ HT.sIx n n b ≤ d := by
      split at e2
      · cases e2
        cases hb
        rw [HT.sIx_none]
        exact ⟨hl, hh⟩
      · split at e2
        · rename_i p q h0
          cases e2
          obtain ⟨i, rfl, g1, g2⟩ := hb
          simp only [geO, leO] at g1 g2
          rw [sIx_pos (by omega)]
          omega
        · cases e2
      · cases e2
    obtain ⟨h1, z, h3, h4, h5⟩ := h1
    rw [h3]
    omega
  · exact gen
def slSV (us : US) (c n : Nat) (s : SV) (lo hi : Pt) : Option SV := match s, lo.con, hi.con with
  | .fix ts, some a, some b => some (.fix (cutL ts a b))
  | s, _, _ => match s.all us c n with
    | some t => some (.rep t (cutN s.lo s.hi lo hi).1 (cutN s.lo s.hi lo hi).2)
    | none => none
def slA (us : US) (m : Bool) (t : Ty) (lo hi : Pt) (cs : List Ty) (n : Nat) : Option Rt := match lenB t with
  | some (l, h) => if h ≤ sizeLine then some (.str (cutN l h lo hi).1 (cutN l h lo hi).2 none, cs, n) else none
  | none => match view us cs 10 t with
    | some (q, _, s) => match slSV us cs.length n s lo hi with
      | some z => if q = .tup then some (z.ty .tup, cs, n) else some (mkL m (z.ty .lst) cs n)
      | none => none
    | none => none
section
variable {U : UT} {us : US} {ρ ν : List Nat} {st : Sto} {cs : List Ty} {n : Nat} {Q : PV → Sto → Prop}
theorem Pt.con_ok {p : Pt} {o c : Option Int} (h : p.ok o) (e : p.con = some c) : o = c := by
  cases p with
  | none => cases e; exact h
  | some p =>
    obtain ⟨i, rfl, a, b⟩ := h
    simp only [Pt.con] at e
    split at e
    · rename_i k hk
      cases e
      rw [conO_ok hk a b]
    · cases e
theorem slSV_ok (ok : USok U us) (I : StoIn U cs n ρ ν st) {s z : SV} {lo hi : Pt} {a b : Option Int} {xs : List PV} (h : slSV us cs.length n s lo hi = some z) (ha : lo.ok a) (hb : hi.ok b) (S : s.has U ρ ν xs) : z.has U ρ ν (cutL xs a b) := by
  have key : (match s.all us cs.length n with
    | some t => some (SV.rep t (cutN s.lo s.hi lo hi).1 (cutN s.lo s.hi lo hi).2)
    | none => none) = some z → z.has U ρ ν (cutL xs a b) := fun h => by
    split at h
    · rename_i t ht
      cases h
      have l := SV.len_ok S
      have c := cut_bounds l.1 l.2 ha hb
      have hlen : (cutL xs a b).length = HT.sIx xs.length xs.length b - HT.sIx xs.length 0 a := by
        have := HT.sIx_le xs.length xs.length (Nat.le_refl _) b
        unfold cutL
        rw [List.length_take, List.length_drop]; omega
      refine ⟨by omega, by omega, fun x m => SV.all_ok ok I ht S x ?_⟩
      exact List.mem_of_mem_drop (List.mem_of_mem_take m)
    · cases h
  unfold slSV at h
  split at h
  · rename_i ts c d e1 e2
    cases h
    cases Pt.con_ok ha e1
    cases Pt.con_ok hb e2
    have hl := hasL_len S
    show Ty.hasL U ρ ν _ _
    unfold cutL
    rw [hl]
    exact hasL_take _ (hasL_drop _ S)
  · exact key h
theorem slA_ok (ok : USok U us) (I : StoIn U cs n ρ ν st) {m : Bool} {t : Ty} {lo hi : Pt} {a b : Option Int} {r : Rt} {v : PV} (h : slA us m t lo hi cs n = some r) (g : t.has U ρ ν v) (ha : lo.ok a) (hb : hi.ok b) (k : PostE U r ρ ν st Q) : slR m v a b st Q := by
  unfold slA at h
  split at h
  · rename_i l hh e
    split at h
    · rename_i hz
      cases h
      obtain ⟨s, rfl, o1, o2, o3⟩ := lenB_ok e g
      have c := cut_bounds o2 o3 ha hb
      refine ⟨by omega, k.pure I ?_⟩
      have hlen : (cutS s a b).length = HT.sIx s.length s.length b - HT.sIx s.length 0 a := by
        have := HT.sIx_le s.length s.length (Nat.le_refl _) b
        unfold cutS
        show (List.toArray _).size = _
        have e0 : s.cps.toList.length = s.length := by simp [Str.length]
        rw [List.size_toArray, List.length_take, List.length_drop, e0]; omega
      simp only [Ty.has]
      exact ⟨_, rfl, cut_ok o1, by omega, by omega, trivial⟩
    · cases h
  · split at h
    · rename_i q _ s hv
      obtain ⟨xs, V, S, _⟩ := view_ok ok I 10 t q _ s v hv g
      split at h
      · rename_i z hz
        have Z := slSV_ok ok I hz ha hb S
        split at h
        · rename_i hq
          cases h
          subst hq
          cases V.tp rfl
          exact k.pure I (SV.tyT Z)
        · rename_i hq
          cases h
          have hl := V.ls hq
          have := newL_ok k I (SV.tyL Z)
          cases v with
          | str _ => cases hl
          | tup _ => cases hl
          | _ => exact ⟨xs, hl, this⟩
      · cases h
    · cases h
end

/-! ### methods -/
def strSV (us : US) (c n : Nat) (s : SV) : Option (Nat × Nat) := match s.all us c n with
  | some t => match lenB t with
    | some (l, h) => some (l, h)
    | none => if s.hi = 0 then some (0, 0) else none
  | none => none
def cellSV (cs : List Ty) (k : Nat) : Option SV := match cs[k]? with
  | some (.lst ts) => some (.fix ts)
  | some (.seq .lst t lo hi _) => some (.rep t lo hi)
  | _ => none
def SV.last (s : SV) : Option (Ty × SV) := match s with
  | .fix ts => match ts[ts.length - 1]? with
    | some t => some (t, .fix ts.dropLast)
    | none => none
  | .rep t lo hi => if 1 ≤ lo then some (t, .rep t (lo - 1) (hi - 1)) else none
def mtA (us : US) (r : MtN) (o : Ty) (ts : List Ty) (cs : List Ty) (n : Nat) : Option Rt := match r, o, ts with
  | .append, .cell k, [t] => match cellSV cs k with
    | some s => match SV.app us cs.length n s (.fix [t]) with
      | some z => if z.hi ≤ sizeLine then some (.non, cs.set k (z.ty .lst), n) else none
      | none => none
    | none => none
  | .extend, .cell k, [t] => match cellSV cs k, view us cs 10 t with
    | some s, some (q, _, w) => match SV.app us cs.length n s w with
      | some z => if q = .lst ∧ z.hi ≤ sizeLine then some (.non, cs.set k (z.ty .lst), n) else none
      | none => none
    | _, _ => none
  | .pop, .cell k, [] => match cellSV cs k with
    | some s => match s.last with
      | some (t, z) => some (t, cs.set k (z.ty .lst), n)
      | none => none
    | none => none
  | .join, o, [t] => match lenB o, view us cs 10 t with
    | some (_, h), some (_, _, s) => match strSV us cs.length n s with
      | some (l', h') => if s.hi * h' + s.hi * h ≤ 16777216 then some (.str (s.lo * l') (s.hi * h' + s.hi * h) none, cs, n) else none
      | none => none
    | _, _ => none
  | _, _, _ => none
/-- the class whose method it is -/
def tyA (T : String) (t : Ty) (cs : List Ty) : Bool := match t with
  | .cell k => T == "list" && decide (k < cs.length)
  | t => T == "str" && isStr t
section
variable {U : UT} {us : US} {ρ ν : List Nat} {st : Sto} {cs : List Ty} {n : Nat} {Q : PV → Sto → Prop}
theorem tyA_ok (I : StoIn U cs n ρ ν st) {T : String} {t : Ty} {v : PV} (h : tyA T t cs = true) (g : t.has U ρ ν v) : tyM st v = some T := by
  have plain : ∀ t, (T == "str" && isStr t) = true → t.has U ρ ν v → tyM st v = some T := fun t h g => by
    simp only [Bool.and_eq_true, beq_iff_eq] at h
    obtain ⟨s, rfl, _⟩ := isStr_ok h.2 g
    rw [h.1]; rfl
  cases t with
  | cell k =>
    simp only [tyA, Bool.and_eq_true, beq_iff_eq, decide_eq_true_eq] at h
    simp only [Ty.has] at g
    obtain ⟨a, e, rfl⟩ := g
    obtain ⟨xs, q, _⟩ := I.at_ k _ a (List.getElem?_eq_getElem h.2) e
    simp only [tyM, q, h.1]
  | _ => exact plain _ h g
theorem cellSV_ok (I : StoIn U cs n ρ ν st) {k a : Nat} {s : SV} (h : cellSV cs k = some s) (e : ρ[k]? = some a) : ∃ xs, st[a]? = some (.lst xs) ∧ s.has U ρ ν xs := by
  unfold cellSV at h
  split at h
  · rename_i ts hc
    cases h
    obtain ⟨xs, q1, q2⟩ := I.at_ k _ a hc e
    simp only [Ty.has] at q2
    obtain ⟨ys, e2, q2⟩ := q2
    cases e2
    exact ⟨xs, q1, q2⟩
  · rename_i t lo hi id hc
    cases h
    obtain ⟨xs, q1, q2⟩ := I.at_ k _ a hc e
    simp only [Ty.has] at q2
    obtain ⟨ys, e2, c1, c2, c3, c4⟩ := q2
    cases e2
    exact ⟨xs, q1, c1, c2, c4⟩
  · cases h
theorem hasL_last : ∀ {ts : List Ty} {xs : List PV}, Ty.hasL U ρ ν ts xs → Ty.hasL U ρ ν ts.dropLast xs.dropLast := fun {ts xs} h => by
  rw [List.dropLast_eq_take, List.dropLast_eq_take, hasL_len h]
  exact hasL_take _ h
theorem SV.last_ok {s z : SV} {t : Ty} {xs : List PV} (h : s.last = some (t, z)) (S : s.has U ρ ν xs) : ∃ y, xs[xs.length - 1]? = some y ∧ t.has U ρ ν y ∧ z.has U ρ ν xs.dropLast := by
  cases s with
  | fix ts =>
    simp only [SV.last] at h
    split at h
    · rename_i t' ht
      cases h
      obtain ⟨v, q1, q2⟩ := hasL_get S ht
      rw [hasL_len S]
      exact ⟨v, q1, q2, hasL_last S⟩
    · cases h
  | rep t' lo hi =>
    simp only [SV.last] at h
    split at h
    · rename_i h1
      cases h
      obtain ⟨a, b, c⟩ := S
      have : xs.length - 1 < xs.length := by omega
      refine ⟨_, List.getElem?_eq_getElem this, c _ (List.getElem_mem this), ?_, ?_, fun x m => c x ((List.dropLast_sublist xs).subset m)⟩
      · rw [List.length_dropLast]; omega
      · rw [List.length_dropLast]; omega
    · cases h
theorem strs_of {l h : Nat} : ∀ {xs : List PV}, (∀ x ∈ xs, ∃ s : Str, x = .str s ∧ PyData.strOk s = true ∧ l ≤ s.length ∧ s.length ≤ h) → ∃ ss : List Str, xs = pStrs ss ∧ ss.length = xs.length ∧ (∀ s ∈ ss, PyData.strOk s = true) ∧ l * ss.length ≤ (ss.map (·.length)).sum ∧ (ss.map (·.length)).sum ≤ h * ss.length
  | [], _ => ⟨[], rfl, rfl, nofun, by simp, by simp⟩
  | x :: xs, g => by
    obtain ⟨ss, e1, e2, e3, e4, e5⟩ := strs_of (xs := xs) fun y m => g y (List.mem_cons_of_mem _ m)
    obtain ⟨s, e, o, a, b⟩ := g x List.mem_cons_self
    refine ⟨s :: ss, by rw [e, e1]; rfl, by simp [e2], fun t m => (List.mem_cons.mp m).elim (fun z => by rw [z]; exact o) (e3 t), ?_, ?_⟩
    · simp only [List.length_cons, List.map_cons, List.sum_cons, Nat.mul_add]; omega
    · simp only [List.length_cons, List.map_cons, List.sum_cons, Nat.mul_add]; omega
theorem join_all (s : Str) (hso : PyData.strOk s = true) : ∀ ss : List Str, (∀ x ∈ ss, PyData.strOk x = true) → PyData.strOk (Str.join s ss) = true ∧ (ss.map (·.length)).sum ≤ (Str.join s ss).length ∧ (Str.join s ss).length ≤ (ss.map (·.length)).sum + ss.length * s.length
  | [], _ => ⟨(show PyData.strOk Str.empty = true by decide +kernel), Nat.le_refl _, Nat.zero_le _⟩
  | [x], h => ⟨h x List.mem_cons_self, by simp [Str.join], by simp [Str.join]⟩
  | x :: y :: r, h => by
    obtain ⟨h1, h2, h3⟩ := join_all s hso (y :: r) fun z m => h z (List.mem_cons_of_mem _ m)
    have e : Str.join s (x :: y :: r) = x ++ s ++ Str.join s (y :: r) := rfl
    rw [e]
    refine ⟨strOk_app (strOk_app (h x List.mem_cons_self) hso) h1, ?_, ?_⟩
    · rw [len_app, len_app, List.map_cons, List.sum_cons]; omega
    · rw [len_app, len_app, List.map_cons, List.sum_cons, List.length_cons, Nat.add_mul]; omega
theorem mtA_ok (ok : USok U us) (I : StoIn U cs n ρ ν st) {m : MtN} {o : Ty} {ts : List Ty} {r : Rt} {x : PV} {vs : List PV} (h : mtA us m o ts cs n = some r) (go : o.has U ρ ν x) (g : Ty.hasL U ρ ν ts vs) (k : PostE U r ρ ν st Q) : m.den x vs st Q := by
  have non : ∀ {ρ ν : List Nat}, Ty.non.has U ρ ν .non := fun {ρ ν} => by simp only [Ty.has]
  unfold mtA at h
  split at h
  · rename_i kk t
    obtain ⟨v, rfl, gv⟩ := hasL_one g
    simp only [Ty.has] at go
    obtain ⟨a, e, rfl⟩ := go
    split at h
    · rename_i s hs
      obtain ⟨xs, q1, S⟩ := cellSV_ok I hs e
      split at h
      · rename_i z hz
        split at h
        · rename_i hl
          cases h
          have Z := SV.app_ok ok I hz S (show (SV.fix [t]).has U ρ ν [v] from g)
          have lz := SV.len_ok Z
          simp only [List.length_append, List.length_cons, List.length_nil] at lz
          exact ⟨a, xs, v, rfl, rfl, q1, by omega, k _ _ _ _ (Step.set e) (I.set e (SV.tyL Z)) non⟩
        · cases h
      · cases h
    · cases h
  · rename_i kk t
    obtain ⟨v, rfl, gv⟩ := hasL_one g
    simp only [Ty.has] at go
    obtain ⟨a, e, rfl⟩ := go
    split at h
    · rename_i s q _ w hs hv
      obtain ⟨xs, q1, S⟩ := cellSV_ok I hs e
      obtain ⟨ys, V, W, _⟩ := view_ok ok I 10 t q _ w v hv gv
      split at h
      · rename_i z hz
        split at h
        · rename_i hl
          cases h
          have Z := SV.app_ok ok I hz S W
          have lz := SV.len_ok Z
          rw [List.length_append] at lz
          exact ⟨a, xs, v, ys, rfl, rfl, q1, V.lv hl.1, by omega, k _ _ _ _ (Step.set e) (I.set e (SV.tyL Z)) non⟩
        · cases h
      · cases h
    · cases h
  · rename_i kk
    simp only [Ty.hasL] at g
    subst g
    simp only [Ty.has] at go
    obtain ⟨a, e, rfl⟩ := go
    split at h
    · rename_i s hs
      obtain ⟨xs, q1, S⟩ := cellSV_ok I hs e
      split at h
      · rename_i t z hz
        cases h
        obtain ⟨y, e2, gy, Z⟩ := SV.last_ok hz S
        exact ⟨a, xs, y, rfl, rfl, q1, e2, k _ _ _ _ (Step.set e) (I.set e (SV.tyL Z)) gy⟩
      · cases h
    · cases h
  · rename_i t
    obtain ⟨v, rfl, gv⟩ := hasL_one g
    split at h
    · rename_i l0 hh q _ s e1 e2
      split at h
      · rename_i l' h' hs
        split at h
        · rename_i hz
          cases h
          obtain ⟨a, rfl, o1, o2, o3⟩ := lenB_ok e1 go
          obtain ⟨xs, V, S, _⟩ := view_ok ok I 10 t q _ s v e2 gv
          have l := SV.len_ok S
          have hx : ∀ x ∈ xs, ∃ s : Str, x = .str s ∧ PyData.strOk s = true ∧ l' ≤ s.length ∧ s.length ≤ h' := by
            unfold strSV at hs
            split at hs
            · rename_i t' ht
              split at hs
              · rename_i e3
                cases hs
                exact fun x m => lenB_ok e3 (SV.all_ok ok I ht S x m)
              · split at hs
                · rename_i h0
                  intro x m
                  cases xs with
                  | nil => cases m
                  | cons _ _ => simp only [List.length_cons] at l; omega
                · cases hs
            · cases hs
          obtain ⟨ss, rfl, c1, c2, c3, c4⟩ := strs_of hx
          obtain ⟨j1, j2, j3⟩ := join_all a o1 ss c2
          have m1 : h' * ss.length ≤ s.hi * h' := by rw [Nat.mul_comm]; exact Nat.mul_le_mul_right _ (by omega)
          have m2 : ss.length * a.length ≤ s.hi * hh := Nat.mul_le_mul (by omega) o3
          have m3 : s.lo * l' ≤ l' * ss.length := by rw [Nat.mul_comm l']; exact Nat.mul_le_mul_right _ (by omega)
          refine ⟨a, v, ss, rfl, rfl, V.sq, by omega, k.pure I ?_⟩
          simp only [Ty.has]
          exact ⟨_, rfl, by rw [txt_join]; exact j1, by rw [txt_join]; omega, by rw [txt_join]; omega, trivial⟩
        · cases h
      · cases h
    · cases h
  · cases h
end

/-! ### truth: may it be False, may it be True -/
def truS (us : US) (t : Ty) (cs : List Ty) : Option (Bool × Bool) := match lenB t with
  | some (l, h) => if h ≤ sizeLine then some (l == 0, h != 0) else none
  | none => match view us cs 10 t with
    | some (_, _, s) => some (s.lo == 0, s.hi != 0)
    | none => none
def truA (us : US) (t : Ty) (cs : List Ty) : Option (Bool × Bool) := match t with
  | .bl f t => some (f, t)
  | .non => some (true, false)
  | .int l h _ => some (!(ltO (some 0) l || ltO h (some 0)), !(match conO l h with
      | some k => k == 0
      | none => false))
  | t => truS us t cs
section
variable {U : UT} {us : US} {ρ ν : List Nat} {st : Sto} {cs : List Ty} {n : Nat}
theorem tru_seq {v : PV} {xs : List PV} (h : seqP st v = some xs) : truP st v = some (!xs.isEmpty) := by
  cases v with
  | ref a =>
    simp only [seqP, lstP, lstS] at h
    split at h
    · rename_i c hc; cases h; simp only [truP, hc]
    · cases h
  | tup xs => cases h; rfl
  | lst xs => cases h; rfl
  | fls xs => cases h; rfl
  | _ => cases h
theorem truA_ok (ok : USok U us) (I : StoIn U cs n ρ ν st) {t : Ty} {f g : Bool} {v : PV} (h : truA us t cs = some (f, g)) (gv : t.has U ρ ν v) : ∃ b, truP st v = some b ∧ (if b = true then g else f) = true := by
  have seqs : ∀ t, truS us t cs = some (f, g) → t.has U ρ ν v → ∃ b, truP st v = some b ∧ (if b = true then g else f) = true := fun t h gv => by
    unfold truS at h
    split at h
    · rename_i l hh e
      split at h
      · cases h
        obtain ⟨s, rfl, o1, o2, o3⟩ := lenB_ok e gv
        refine ⟨_, by simp only [truP]; rw [if_pos (by omega)], ?_⟩
        by_cases hz : s.length = 0
        · rw [hz]
          have : l = 0 := by omega
          subst this; rfl
        · have h1 : ((s.length : Int) != 0) = true := by simp; omega
          rw [h1, if_pos rfl]
          simp; omega
      · cases h
    · split at h
      · rename_i q _ s hv
        cases h
        obtain ⟨xs, V, S, _⟩ := view_ok ok I 10 t q _ s v hv gv
        refine ⟨_, tru_seq V.sq, ?_⟩
        have l := SV.len_ok S
        cases xs with
        | nil => simp only [List.length_nil] at l; simp; omega
        | cons _ _ => simp only [List.length_cons] at l; simp; omega
      · cases h
  cases t with
  | bl f' t' =>
    simp only [truA, Option.some.injEq, Prod.mk.injEq] at h
    obtain ⟨rfl, rfl⟩ := h
    simp only [Ty.has] at gv
    obtain ⟨b, rfl, hb⟩ := gv
    exact ⟨b, rfl, hb⟩
  | non =>
    simp only [truA, Option.some.injEq, Prod.mk.injEq] at h
    obtain ⟨rfl, rfl⟩ := h
    simp only [Ty.has] at gv
    subst gv
    exact ⟨false, rfl, rfl⟩
  | int l hh s =>
    simp only [truA, Option.some.injEq, Prod.mk.injEq] at h
    obtain ⟨rfl, rfl⟩ := h
    simp only [Ty.has] at gv
    obtain ⟨i, rfl, a, b, _⟩ := gv
    refine ⟨_, rfl, ?_⟩
    by_cases hi : i = 0
    · subst hi
      rw [if_neg (by decide)]
      simp only [Bool.not_eq_true', Bool.or_eq_false_iff]
      constructor
      · cases e : ltO (some 0) l with
        | false => rfl
        | true => have := ltO_ok (i := 0) (j := 0) e (Int.le_refl _) a; omega
      · cases e : ltO hh (some 0) with
        | false => rfl
        | true => have := ltO_ok (i := 0) (j := 0) e b (Int.le_refl _); omega
    · rw [if_pos (by simpa using hi)]
      cases e : conO l hh with
      | none => rfl
      | some k =>
        have := conO_ok e a b
        simp; omega
  | _ => exact seqs _ (by simpa only [truA] using h) gv
end
end Pv

/-! Ai8: expressions by types. -/
namespace Pv
open PySem PySem.Spec L2
abbrev BR := Option AS × Option AS
def BR.at (p : BR) (b : Bool) : Option AS := if b = true then p.1 else p.2
def defBr (t : Ty) (S : AS) : Option BR := match t with
  | .bl f t => some (if t = true then some S else none, if f = true then some S else none)
  | _ => none
abbrev XR := Rt × Option BR
def cstT : PV → Option Ty
  | .int i => some (.int (some i) (some i) .no)
  | .bl b => some (.bl (!b) b)
  | .non => some .non
  | .str s => if PyData.strOk s = true then some (.cst s) else none
  | _ => none
/-- the class of a type's values -/
def tyT (cs : List Ty) : Ty → Option String
  | .int _ _ _ => some "int"
  | .bl _ _ => some "bool"
  | .non => some "NoneType"
  | .str _ _ _ => some "str"
  | .cst _ => some "str"
  | .raw => some "str"
  | .tup _ => some "tuple"
  | .lst _ => some "list"
  | .seq .tup _ _ _ _ => some "tuple"
  | .seq _ _ _ _ _ => some "list"
  | .dk _ _ => some "dict"
  | .cell k => if k < cs.length then some "list" else none
  | _ => none
def orO : Option Ty → Option Ty → Option Ty
  | some a, some b => some (.or a b)
  | some a, none => some a
  | none, b => b
def narP (cs : List Ty) (T : String) (t : Ty) : Option (Option Ty × Option Ty) := match tyT cs t with
  | some ty => if isiB ty T = true then some (some t, none) else some (none, some t)
  | none => none
/-- as one of the class, as none -/
def nar (us : US) (cs : List Ty) (T : String) : Nat → Ty → Option (Option Ty × Option Ty)
  | 0, _ => none
  | k + 1, t => match t with
    | .or a b => match nar us cs T k a, nar us cs T k b with
      | some (x, y), some (x', y') => some (orO x x', orO y y')
      | _, _ => none
    | .usr u => match nar us cs T k (us.unf u) with
      | some (some _, none) => some (some (.usr u), none)
      | some (none, some _) => some (none, some (.usr u))
      | p => p
    | .dat d n => if T = "tuple" then some (some (.seq .tup (.dat (d - 1) n) 0 n none), some (.dat d n))
      else if T = "list" then some (some (.seq .anl (.dat (d - 1) n) 0 n none), some (.dat d n))
      else if T = "str" then some (some (.str 0 n none), some (.dat d n))
      else if T = "bool" then some (some (.bl true true), some (.dat d n))
      else if T = "int" then some (some (.dat d n), some (.dat d n))
      else none
    | t => narP cs T t
def setEv (S : AS) (i : Nat) (t : Option Ty) : Option AS := match t with
  | some t => some ⟨S.ev.set i (some t), S.cs, S.n⟩
  | none => none
def varOf : QE → Option Nat
  | .var i => some i
  | _ => none
/-- a new name of a length -/
def bindT (i : Nat) (t : Ty) (S : AS) : AS := match t with
  | .seq k t lo hi none => if lo = hi then ⟨S.ev.set i (some (.seq k t lo hi none)), S.cs, S.n⟩ else ⟨S.ev.set i (some (.seq k t lo hi (some S.n))), S.cs, S.n + 1⟩
  | .str lo hi none => if lo = hi then ⟨S.ev.set i (some (.str lo hi none)), S.cs, S.n⟩ else ⟨S.ev.set i (some (.str lo hi (some S.n))), S.cs, S.n + 1⟩
  | t => ⟨S.ev.set i (some t), S.cs, S.n⟩
def wipeA (ev : List (Option Ty)) : List Nat → List (Option Ty)
  | [] => ev
  | v :: vs => (wipeA ev vs).set v none
def noRef (us : US) : Ty → Bool
  | .tup _ => true
  | .lst _ => true
  | .seq _ _ _ _ _ => true
  | t => (Ty.bd us 30 t).isSome
def itA (us : US) (t : Ty) (cs : List Ty) : Option SV := match lenB t with
  | some (l, h) => some (.rep (.str 1 1 none) l h)
  | none => if noRef us t = true then (match view us cs 10 t with
    | some (_, _, s) => some s
    | none => none) else none
def rgA (lo hi : Int) (s : Sy) (a b : Int) : SV := if lo = hi ∧ a = b ∧ b - lo < 33 then .fix ((List.range (b - lo).toNat).map fun i => .int (some (lo + (i : Nat))) (some (lo + (i : Nat))) .no)
  else .rep (.int (some lo) (some (b - 1)) s) (a - hi).toNat (b - lo).toNat
def below : Sy → Sy
  | .eq id off => .lt id off
  | _ => .no
def fixEn : Nat → List Ty → List Ty
  | _, [] => []
  | k, t :: ts => .tup [.int (some (k : Nat)) (some (k : Nat)) .no, t] :: fixEn (k + 1) ts
def enA (us : US) (t : Ty) (cs : List Ty) : Option SV := if noRef us t = true then (match view us cs 10 t with
    | some (_, _, .fix ts) => some (.fix (fixEn 0 ts))
    | some (_, id, .rep t lo hi) => some (.rep (.tup [.int (some 0) (some ((hi : Int) - 1)) (match id with
      | some id => .lt id 0
      | none => .no), t]) lo hi)
    | none => none) else none
def stripN (n m : Nat) : Nat → Ty → Ty
  | 0, t => t
  | k + 1, t => match t with
    | .int l h _ => .int l h .no
    | .str l h _ => .str l h none
    | .tup ts => .tup (ts.map (stripN n m k))
    | .lst ts => .lst (ts.map (stripN n m k))
    | .seq q t l h _ => .seq q (stripN n m k t) l h none
    | .dk ks ts => .dk ks (ts.map (stripN n m k))
    | .or a b => .or (stripN n m k a) (stripN n m k b)
    | t => t
def leX (us : US) (cs : List Ty) (n : Nat) (S : AS) : Bool := AS.le us ⟨S.ev, cs, n⟩ S
def okF (us : US) (S : AS) : Option AS → Bool
  | some F => leX us F.cs F.n S
  | none => true
/-- one turn of a comprehension: what comes, whether it surely comes -/
def oneLc (us : US) (S : AS) (bind : AS → Option AS) (tt : AS → Option BR) (el : AS → Option XR) : Option (Option Ty × Bool) := match bind S with
  | none => none
  | some S1 => match tt S1 with
    | none => none
    | some (St, Sf) => if okF us S Sf = true then (match St with
      | none => some (none, false)
      | some S2 => match el S2 with
        | none => none
        | some ((t, cs, n), _) => if leX us cs n S && Ty.sub us S.cs.length S.n 25 t (stripN S.cs.length S.n 10 t) then some (some (stripN S.cs.length S.n 10 t), Sf.isNone) else none) else none
def fixLc (us : US) (one : Ty → Option (Option Ty × Bool)) : List Ty → Option (List (Option Ty × Bool))
  | [] => some []
  | t :: ts => match one t, fixLc us one ts with
    | some p, some ps => some (p :: ps)
    | _, _ => none
def lcRes (us : US) (c n : Nat) (ps : List (Option Ty × Bool)) : Option SV :=
  if ps.all (fun p => p.1.isNone || p.2) = true then some (.fix (ps.filterMap (·.1)))
  else match up us c n (ps.filterMap (·.1)) with
    | some t => some (.rep t (ps.countP fun p => p.1.isSome && p.2) (ps.countP fun p => p.1.isSome))
    | none => none
def lcA (us : US) (S : AS) (s : SV) (one : Ty → Option (Option Ty × Bool)) : Option SV := match s with
  | .fix ts => if ts.length ≤ 24 then (match fixLc us one ts with
      | some ps => lcRes us S.cs.length S.n ps
      | none => none) else none
  | .rep t lo hi => match one t with
    | some (some t', sure) => if hi ≤ sizeLine then some (.rep t' (if sure = true then lo else 0) hi) else none
    | some (none, _) => some (.fix [])
    | none => none
def splitT (s : SV) (n : Nat) : Option (List Ty) := match s with
  | .fix ts => if ts.length = n then some ts else none
  | .rep t lo hi => if lo = n ∧ hi = n then some (List.replicate n t) else none
/-- the middle, and all in a row -/
def starT (s : SV) (n i : Nat) : Option (List Ty × SV × List Ty) := match s with
  | .fix ts => if n ≤ ts.length + 1 ∧ i < n then some (ts.take i, .fix ((ts.drop i).take (ts.length + 1 - n)), (ts.drop i).drop (ts.length + 1 - n)) else none
  | .rep t lo hi => if n ≤ lo + 1 ∧ i < n then some (List.replicate i t, .rep t (lo + 1 - n) (hi + 1 - n), List.replicate (n - 1 - i) t) else none
/-- what is taken apart -/
def starV (us : US) (cs : List Ty) (t : Ty) : Option SV := match lenB t with
  | some (l, h) => if h ≤ sizeLine then some (.rep (.str 1 1 none) l h) else none
  | none => match view us cs 10 t with
    | some (.tup, _, s) => if s.hi ≤ sizeLine then some s else none
    | _ => none
def joinB (us : US) (S : AS) : Option AS → Option AS → Option (Option AS)
  | some a, some b => match AS.join us S.cs.length S.n a b with
    | some c => some (some c)
    | none => none
  | some a, none => some (some a)
  | none, b => some b
mutual
def evE (us : US) (call : Nat → List Ty → List Ty → Nat → Option Rt) : QE → AS → Option XR
  | .var i, S => match S.ev[i]? with
    | some (some t) => some ((t, S.cs, S.n), defBr t S)
    | _ => none
  | .cst v, S => match cstT v with
    | some t => some ((t, S.cs, S.n), defBr t S)
    | none => none
  | .op o a b, S => match evE us call a S with
    | some ((ta, c1, n1), _) => match evE us call b ⟨S.ev, c1, n1⟩ with
      | some ((tb, c2, n2), _) => match opA us o ta tb c2 n2 with
        | some (t, c3, n3) => some ((t, c3, n3), defBr t ⟨S.ev, c3, n3⟩)
        | none => none
      | none => none
    | none => none
  | .tup as, S => match evA us call as S with
    | some (ts, c, n) => if ts.length ≤ sizeLine then some ((.tup ts, c, n), none) else none
    | none => none
  | .lst m as, S => match evA us call as S with
    | some (ts, c, n) => if ts.length ≤ sizeLine then some (mkL m (.lst ts) c n, none) else none
    | none => none
  | .ite t a b, S => match evT us call t S with
    | some (some St, some Sf) => match evE us call a St, evE us call b Sf with
      | some (r, _), some (q, _) => match Rt.join us S.cs.length S.n r q with
        | some J => some (J, defBr J.1 ⟨S.ev, J.2.1, J.2.2⟩)
        | none => none
      | _, _ => none
    | some (some St, none) => match evE us call a St with
      | some (r, _) => some (r, none)
      | none => none
    | some (none, some Sf) => match evE us call b Sf with
      | some (r, _) => some (r, none)
      | none => none
    | _ => none
  | .andV a b, S => match evE us call a S with
    | some (_, some (St, Sf)) => match St, Sf with
      | none, some F => some ((.bl true false, F.cs, F.n), some (none, some F))
      | some T, none => evE us call b T
      | some T, some F => match evE us call b T with
        | some (rb, some (Tt, Tf)) => match Rt.join us S.cs.length S.n (.bl true false, F.cs, F.n) rb, joinB us S (some F) Tf with
          | some J, some F' => some (J, some (Tt, F'))
          | _, _ => none
        | some (rb, none) => match Rt.join us S.cs.length S.n (.bl true false, F.cs, F.n) rb with
          | some J => some (J, none)
          | none => none
        | none => none
      | none, none => none
    | _ => none
  | .orV a b, S => match evE us call a S with
    | some (_, some (St, Sf)) => match St, Sf with
      | some T, none => some ((.bl false true, T.cs, T.n), some (some T, none))
      | none, some F => evE us call b F
      | some T, some F => match evE us call b F with
        | some (rb, some (Tt, Tf)) => match Rt.join us S.cs.length S.n (.bl false true, T.cs, T.n) rb, joinB us S (some T) Tt with
          | some J, some T' => some (J, some (T', Tf))
          | _, _ => none
        | some (rb, none) => match Rt.join us S.cs.length S.n (.bl false true, T.cs, T.n) rb with
          | some J => some (J, none)
          | none => none
        | none => none
      | none, none => none
    | _ => none
  | .notV a, S => match evE us call a S with
    | some ((_, c, n), some (St, Sf)) => some ((.bl St.isSome Sf.isSome, c, n), some (Sf, St))
    | some ((t, c, n), none) => match truA us t c with
      | some (f, g) => some ((.bl g f, c, n), defBr (.bl g f) ⟨S.ev, c, n⟩)
      | none => none
    | none => none
  | .neg a, S => match evE us call a S with
    | some ((.int l h _, c, n), _) => some ((.int (negO h) (negO l) .no, c, n), none)
    | _ => none
  | .chain o o' a b d, S => match evE us call a S with
    | some ((ta, c1, n1), _) => match evE us call b ⟨S.ev, c1, n1⟩ with
      | some ((tb, c2, n2), _) => match opA us o ta tb c2 n2 with
        | some (.bl f g, c3, n3) => match evE us call d ⟨S.ev, c3, n3⟩ with
          | some ((td, c4, n4), _) => match opA us o' tb td c4 n4 with
            | some (.bl f' g', c5, n5) => match Rt.join us S.cs.length S.n (.bl true false, c3, n3) (.bl f' g', c5, n5) with
              | some J => some (J, defBr J.1 ⟨S.ev, J.2.1, J.2.2⟩)
              | none => none
            | _ => none
          | none => none
        | _ => none
      | none => none
    | none => none
  | .call n f as, S => match evA us call as S with
    | some (ts, c, k) => if ts.length = n then (match call f ts c k with
      | some (t, c', k') => some ((t, c', k'), defBr t ⟨S.ev, c', k'⟩)
      | none => none) else none
    | none => none
  | .ca r as, S => match evA us call as S with
    | some (ts, c, n) => match caA us r ts c n with
      | some (t, c', n') => some ((t, c', n'), defBr t ⟨S.ev, c', n'⟩)
      | none => none
    | none => none
  | .isi T a, S => match evE us call a S with
    | some ((t, c, n), _) => match nar us c T 10 t with
      | some (x, y) => some ((.bl y.isSome x.isSome, c, n), match varOf a with
        | some i => some (setEv ⟨S.ev, c, n⟩ i x, setEv ⟨S.ev, c, n⟩ i y)
        | none => defBr (.bl y.isSome x.isSome) ⟨S.ev, c, n⟩)
      | none => none
    | none => none
  | .sl m a lo hi, S => match evE us call a S with
    | some ((t, c, n), _) => match evO us call lo ⟨S.ev, c, n⟩ with
      | some (p, c1, n1) => match evO us call hi ⟨S.ev, c1, n1⟩ with
        | some (q, c2, n2) => match slA us m t p q c2 n2 with
          | some r => some (r, none)
          | none => none
        | none => none
      | none => none
    | none => none
  | .mt T r o as, S => match evE us call o S with
    | some ((t, c, n), _) => if tyA T t c = true then (match evA us call as ⟨S.ev, c, n⟩ with
      | some (ts, c1, n1) => match mtA us r t ts c1 n1 with
        | some r => some (r, none)
        | none => none
      | none => none) else none
    | none => none
  | .lc m it g t e own, S => match evI us call it S with
    | some (s, c, n) => match lcA us ⟨wipeA S.ev own, c, n⟩ s (fun ty => oneLc us ⟨wipeA S.ev own, c, n⟩ (evG us call g ty) (evT us call t) (evE us call e)) with
      | some z => if z.hi ≤ sizeLine then some (mkL m (z.ty .lst) c n, none) else none
      | none => none
    | none => none
  | .disp m ps, S => match evP us call ps S with
    | some (ks, ts, c, n) => if decide (ks.length ≤ 15) && decide ks.Nodup && !m then some ((.dk ks ts, c, n), none) else none
    | none => none
  | .dict0 m, S => if m = true then none else some ((.dk [] [], S.cs, S.n), none)
def evA (us : US) (call : Nat → List Ty → List Ty → Nat → Option Rt) : QA → AS → Option (List Ty × List Ty × Nat)
  | .nil, S => some ([], S.cs, S.n)
  | .cons e r, S => match evE us call e S with
    | some ((t, c, n), _) => match evA us call r ⟨S.ev, c, n⟩ with
      | some (ts, c1, n1) => some (t :: ts, c1, n1)
      | none => none
    | none => none
def evP (us : US) (call : Nat → List Ty → List Ty → Nat → Option Rt) : QP → AS → Option (List Key × List Ty × List Ty × Nat)
  | .nil, S => some ([], [], S.cs, S.n)
  | .cons k v r, S => match evE us call k S with
    | some ((tk, c, n), _) => match keyOf tk with
      | some key => match evE us call v ⟨S.ev, c, n⟩ with
        | some ((t, c1, n1), _) => match evP us call r ⟨S.ev, c1, n1⟩ with
          | some (ks, ts, c2, n2) => some (key :: ks, t :: ts, c2, n2)
          | none => none
        | none => none
      | none => none
    | none => none
def evT (us : US) (call : Nat → List Ty → List Ty → Nat → Option Rt) : QT → AS → Option BR
  | .tru e, S => match evE us call e S with
    | some (_, some p) => some p
    | some ((t, c, n), none) => match truA us t c with
      | some (f, g) => defBr (.bl f g) ⟨S.ev, c, n⟩
      | none => none
    | none => none
  | .val e, S => match evE us call e S with
    | some (_, some p) => some p
    | _ => none
  | .and a b, S => match evT us call a S with
    | some (some T, Sf) => match evT us call b T with
      | some (Tt, Tf) => match joinB us S Sf Tf with
        | some F => some (Tt, F)
        | none => none
      | none => none
    | some (none, Sf) => some (none, Sf)
    | none => none
  | .or a b, S => match evT us call a S with
    | some (St, some F) => match evT us call b F with
      | some (Tt, Tf) => match joinB us S St Tt with
        | some T => some (T, Tf)
        | none => none
      | none => none
    | some (St, none) => some (St, none)
    | none => none
  | .not a, S => match evT us call a S with
    | some (St, Sf) => some (Sf, St)
    | none => none
  | .chain o o' a b d, S => match evE us call a S with
    | some ((ta, c1, n1), _) => match evE us call b ⟨S.ev, c1, n1⟩ with
      | some ((tb, c2, n2), _) => match opA us o ta tb c2 n2 with
        | some (.bl f g, c3, n3) => match evE us call d ⟨S.ev, c3, n3⟩ with
          | some ((td, c4, n4), _) => match opA us o' tb td c4 n4 with
            | some (.bl f' g', c5, n5) => match joinB us S (if f = true then some ⟨S.ev, c3, n3⟩ else none) (if f' = true then some ⟨S.ev, c5, n5⟩ else none) with
              | some F => some (if g' = true then some ⟨S.ev, c5, n5⟩ else none, F)
              | none => none
            | _ => none
          | none => none
        | _ => none
      | none => none
    | none => none
  | .yes, S => some (some S, none)
def evO (us : US) (call : Nat → List Ty → List Ty → Nat → Option Rt) : QO → AS → Option (Pt × List Ty × Nat)
  | .no, S => some (none, S.cs, S.n)
  | .so e, S => match evE us call e S with
    | some ((.int l h _, c, n), _) => some (some (l, h), c, n)
    | _ => none
def evI (us : US) (call : Nat → List Ty → List Ty → Nat → Option Rt) : QI → AS → Option (SV × List Ty × Nat)
  | .val e, S => match evE us call e S with
    | some ((t, c, n), _) => match itA us t c with
      | some s => some (s, c, n)
      | none => none
    | none => none
  | .rg1 as, S => match evA us call as S with
    | some ([.int (some l) (some h) s], c, n) => if -(2 ^ 62) ≤ l ∧ h < 2 ^ 62 then some (rgA 0 0 (below s) l h, c, n) else none
    | _ => none
  | .rg2 as, S => match evA us call as S with
    | some ([.int (some l) (some h) _, .int (some l') (some h') s], c, n) => if -(2 ^ 62) ≤ l ∧ h < 2 ^ 62 ∧ -(2 ^ 62) ≤ l' ∧ h' < 2 ^ 62 then some (rgA l h (below s) l' h', c, n) else none
    | _ => none
  | .en as, S => match evA us call as S with
    | some ([t], c, n) => match enA us t c with
      | some s => some (s, c, n)
      | none => none
    | _ => none
def evG (us : US) (call : Nat → List Ty → List Ty → Nat → Option Rt) : QG → Ty → AS → Option AS
  | .nm i, t, S => some (bindT i t S)
  | .tp n gs, t, S => match view us S.cs 10 t with
    | some (.tup, _, s) => match splitT s n with
      | some ts => evL us call gs ts S
      | none => none
    | _ => none
  | .ul n gs, t, S => match view us S.cs 10 t with
    | some (q, _, s) => if q = .tup then none else (match splitT s n with
      | some ts => evL us call gs ts S
      | none => none)
    | _ => none
  | .ix o i, t, S => match evE us call o S with
    | some ((.cell k, c, n), _) => match evE us call i ⟨S.ev, c, n⟩ with
      | some ((.int lo hi s, c1, n1), _) => match cellSV c1 k with
        | some (.fix ts) => match conO lo hi with
          | some j => if 0 ≤ j ∧ j < ts.length then some ⟨S.ev, c1.set k (.lst (ts.set j.toNat t)), n1⟩ else none
          | none => none
        | some (.rep t' l h) => match up us c1.length n1 [t, t'] with
          | some w => if inB l none lo hi s = true then some ⟨S.ev, c1.set k (.seq .lst w l h none), n1⟩ else none
          | none => none
        | none => none
      | _ => none
    | _ => none
  | .star m n i gs, t, S => match starV us S.cs t with
    | some s => match starT s n i with
      | some (as, z, bs) => match mkL m (z.ty .lst) S.cs S.n with
        | (t', c, k) => evL us call gs (as ++ [t'] ++ bs) ⟨S.ev, c, k⟩
      | none => none
    | _ => none
def evL (us : US) (call : Nat → List Ty → List Ty → Nat → Option Rt) : QL → List Ty → AS → Option AS
  | .nil, ts, S => match ts with
    | [] => some S
    | _ => none
  | .cons g r, ts, S => match ts with
    | t :: ts => match evG us call g t S with
      | some S1 => evL us call r ts S1
      | none => none
    | [] => none
end
end Pv

/-! Ai9: expressions by types are right: parts. -/
namespace Pv
open PySem PySem.Spec L2
section
variable (U : UT)
def In (S : AS) (ρ ν : List Nat) (env : Envp) (st : Sto) : Prop := EnvIn U S.ev ρ ν env ∧ StoIn U S.cs S.n ρ ν st
def BrIn (p : BR) (b : Bool) (ρ ν : List Nat) (st : Sto) (env : Envp) (st' : Sto) : Prop := ∃ S ρ2 ν2, p.at b = some S ∧ Step ρ ν st ρ2 ν2 st' ∧ In U S ρ2 ν2 env st'
def PostX (r : XR) (ρ ν : List Nat) (st : Sto) (env : Envp) (Q : PV → Sto → Prop) : Prop := ∀ ρ' ν' st' v, Step ρ ν st ρ' ν' st' → StoIn U r.1.2.1 r.1.2.2 ρ' ν' st' → r.1.1.has U ρ' ν' v → (∀ p, r.2 = some p → ∃ b, v = .bl b ∧ BrIn U p b ρ ν st env st') → Q v st'
def PostB (p : BR) (ρ ν : List Nat) (st : Sto) (env : Envp) (Q : Bool → Sto → Prop) : Prop := ∀ b st', BrIn U p b ρ ν st env st' → Q b st'
def PostAA (r : List Ty × List Ty × Nat) (ρ ν : List Nat) (st : Sto) (Q : List PV → Sto → Prop) : Prop := ∀ ρ' ν' st' vs, Step ρ ν st ρ' ν' st' → StoIn U r.2.1 r.2.2 ρ' ν' st' → Ty.hasL U ρ' ν' r.1 vs → Q vs st'
def PostPP (r : List Key × List Ty × List Ty × Nat) (ρ ν : List Nat) (st : Sto) (Q : List (PV × PV) → Sto → Prop) : Prop := ∀ ρ' ν' st' (ps : List (PV × PV)), Step ρ ν st ρ' ν' st' → StoIn U r.2.2.1 r.2.2.2 ρ' ν' st' → kPs (ps.map (·.1)) = some r.1 → Ty.hasL U ρ' ν' r.2.1 (ps.map (·.2)) → Q ps st'
def PostO' (r : Pt × List Ty × Nat) (ρ ν : List Nat) (st : Sto) (Q : Option Int → Sto → Prop) : Prop := ∀ ρ' ν' st' o, Step ρ ν st ρ' ν' st' → StoIn U r.2.1 r.2.2 ρ' ν' st' → r.1.ok o → Q o st'
def PostI (r : SV × List Ty × Nat) (ρ ν : List Nat) (st : Sto) (Q : PIt → Sto → Prop) : Prop := ∀ ρ' ν' st' (p : PIt), Step ρ ν st ρ' ν' st' → StoIn U r.2.1 r.2.2 ρ' ν' st' → r.1.has U ρ' ν' p.items → (∀ s, p.guard s) → Q p st'
def PostG (S : AS) (ρ ν : List Nat) (st : Sto) (Q : Envp → Sto → Prop) : Prop := ∀ ρ' ν' st' env', Step ρ ν st ρ' ν' st' → In U S ρ' ν' env' st' → Q env' st'
def OkC (φ : Nat → Spc) (call : Nat → List Ty → List Ty → Nat → Option Rt) : Prop := ∀ f ts cs n r, call f ts cs n = some r → ∀ ρ ν st xs Q, StoIn U cs n ρ ν st → Ty.hasL U ρ ν ts xs → PostE U r ρ ν st Q → φ f xs st Q
end
section
variable {U : UT} {us : US} {ρ ρ' ν ν' : List Nat} {st st' : Sto} {env : Envp} {S : AS}
theorem defBr_ok {t : Ty} {T : AS} {v : PV} {p : BR} (h : defBr t T = some p) (g : t.has U ρ' ν' v) (s : Step ρ ν st ρ' ν' st') (I : In U T ρ' ν' env st') : ∃ b, v = .bl b ∧ BrIn U p b ρ ν st env st' := by
  cases t <;> first | cases h | skip
  simp only [Ty.has] at g
  obtain ⟨b, rfl, hb⟩ := g
  refine ⟨b, rfl, T, ρ', ν', ?_, s, I⟩
  cases b with
  | true => simp only [if_true] at hb; simp only [BR.at, if_true]; rw [if_pos hb]
  | false => simp only [Bool.false_eq_true, if_false] at hb; simp only [BR.at, Bool.false_eq_true, if_false]; rw [if_pos hb]
theorem PostX.dflt {t : Ty} {c : List Ty} {n : Nat} {ev : List (Option Ty)} {v : PV} {Q : PV → Sto → Prop} (P : PostX U ((t, c, n), defBr t ⟨ev, c, n⟩) ρ ν st env Q) (s : Step ρ ν st ρ' ν' st') (E : EnvIn U ev ρ ν env) (I : StoIn U c n ρ' ν' st') (g : t.has U ρ' ν' v) : Q v st' :=
  P ρ' ν' st' v s I g fun p hp => defBr_ok hp g s ⟨E.step s, I⟩
theorem PostX.none {r : Rt} {v : PV} {Q : PV → Sto → Prop} (P : PostX U (r, none) ρ ν st env Q) (s : Step ρ ν st ρ' ν' st') (I : StoIn U r.2.1 r.2.2 ρ' ν' st') (g : r.1.has U ρ' ν' v) : Q v st' := P ρ' ν' st' v s I g nofun
theorem In.le (ok : USok U us) {T : AS} (h : S.le us T = true) (I : In U S ρ' ν' env st') (s : Step ρ ν st ρ' ν' st') (hc : ρ.length ≤ T.cs.length) (hn : ν.length ≤ T.n) : ∃ ρ2 ν2, Step ρ ν st ρ2 ν2 st' ∧ In U T ρ2 ν2 env st' :=
  ⟨_, _, s.take hc hn, AS.le_ok ok h I.1 I.2⟩
theorem Rt.to (ok : USok U us) {r J : Rt} {v : PV} (h : Rt.le us r J = true) (s : Step ρ ν st ρ' ν' st') (I : StoIn U r.2.1 r.2.2 ρ' ν' st') (g : r.1.has U ρ' ν' v) (hc : ρ.length ≤ J.2.1.length) (hn : ν.length ≤ J.2.2) : ∃ ρ2 ν2, Step ρ ν st ρ2 ν2 st' ∧ StoIn U J.2.1 J.2.2 ρ2 ν2 st' ∧ J.1.has U ρ2 ν2 v :=
  ⟨_, _, s.take hc hn, Rt.le_ok ok h I g⟩
/-- one joined with nothing, or with another one -/
theorem joinB_ok (ok : USok U us) {a b c : Option AS} {T : AS} (h : joinB us S a b = some c) (hc : ρ.length = S.cs.length) (hn : ν.length = S.n) (hT : a = some T ∨ b = some T) (I : In U T ρ' ν' env st') (s : Step ρ ν st ρ' ν' st') : ∃ T' ρ2 ν2, c = some T' ∧ Step ρ ν st ρ2 ν2 st' ∧ In U T' ρ2 ν2 env st' := by
  cases a with
  | none =>
    cases hT with
    | inl h => cases h
    | inr hT => subst hT; cases h; exact ⟨T, ρ', ν', rfl, s, I⟩
  | some a =>
    cases b with
    | none =>
      cases hT with
      | inl hT => cases hT; cases h; exact ⟨_, ρ', ν', rfl, s, I⟩
      | inr h => cases h
    | some b =>
      simp only [joinB] at h
      split at h
      · rename_i J hJ
        cases h
        obtain ⟨h1, h2, h3, h4⟩ := AS.join_ok hJ
        rcases hT with hT | hT
        · cases hT
          obtain ⟨ρ2, ν2, s2, I2⟩ := I.le ok h3 s (by omega) (by omega)
          exact ⟨J, ρ2, ν2, rfl, s2, I2⟩
        · cases hT
          obtain ⟨ρ2, ν2, s2, I2⟩ := I.le ok h4 s (by omega) (by omega)
          exact ⟨J, ρ2, ν2, rfl, s2, I2⟩
      · cases h
theorem cstT_ok {v : PV} {t : Ty} (h : cstT v = some t) : t.has U ρ ν v := by
  cases v <;> simp only [cstT] at h <;> first | cases h | skip
  · simp only [Ty.has]
  · simp only [Ty.has]; exact ⟨_, rfl, by rename_i b; cases b <;> rfl⟩
  · simp only [Ty.has]; exact ⟨_, rfl, Int.le_refl _, Int.le_refl _, trivial⟩
  · split at h
    · cases h; simp only [Ty.has]; exact ⟨trivial, by assumption⟩
    · cases h
theorem orO_l {a b : Option Ty} {v : PV} (h : ∃ t, a = some t ∧ t.has U ρ ν v) : ∃ t, orO a b = some t ∧ t.has U ρ ν v := by
  obtain ⟨t, rfl, g⟩ := h
  cases b with
  | none => exact ⟨t, rfl, g⟩
  | some b => exact ⟨_, rfl, by simp only [Ty.has]; exact .inl g⟩
theorem orO_r {a b : Option Ty} {v : PV} (h : ∃ t, b = some t ∧ t.has U ρ ν v) : ∃ t, orO a b = some t ∧ t.has U ρ ν v := by
  obtain ⟨t, rfl, g⟩ := h
  cases a with
  | none => exact ⟨t, rfl, g⟩
  | some b => exact ⟨_, rfl, by simp only [Ty.has]; exact .inr g⟩
theorem tyT_ok {cs : List Ty} {n : Nat} (I : StoIn U cs n ρ ν st) {t : Ty} {T : String} {v : PV} (h : tyT cs t = some T) (g : t.has U ρ ν v) : tyP st v = some T := by
  cases t with
  | int _ _ _ => cases h; simp only [Ty.has] at g; obtain ⟨i, rfl, _⟩ := g; rfl
  | bl _ _ => cases h; simp only [Ty.has] at g; obtain ⟨i, rfl, _⟩ := g; rfl
  | non => cases h; simp only [Ty.has] at g; subst g; rfl
  | str _ _ _ => cases h; simp only [Ty.has] at g; obtain ⟨i, rfl, _⟩ := g; rfl
  | cst _ => cases h; simp only [Ty.has] at g; rw [g.1]; rfl
  | raw => cases h; simp only [Ty.has] at g; obtain ⟨i, rfl⟩ := g; rfl
  | tup _ => cases h; simp only [Ty.has] at g; obtain ⟨i, rfl, _⟩ := g; rfl
  | lst _ => cases h; simp only [Ty.has] at g; obtain ⟨i, rfl, _⟩ := g; rfl
  | dk _ _ => cases h; simp only [Ty.has] at g; obtain ⟨i, rfl, _⟩ := g; rfl
  | seq q _ _ _ _ =>
    simp only [Ty.has] at g
    obtain ⟨xs, e, _⟩ := g
    cases q with
    | tup => cases h; cases e; rfl
    | lst => cases h; cases e; rfl
    | fls => cases h; cases e; rfl
    | anl => cases h; rcases e with rfl | rfl <;> rfl
  | cell k =>
    simp only [tyT] at h
    split at h
    · cases h
      simp only [Ty.has] at g
      obtain ⟨a, e, rfl⟩ := g
      obtain ⟨xs, q, _⟩ := I.at_ k _ a (List.getElem?_eq_getElem (by assumption)) e
      simp only [tyP, q]
    · cases h
  | _ => cases h
theorem dat_parts {d n : Nat} {xs : List PV} (h1 : isDs xs = true) (lay : PyData.canLayAll0 (dats xs) = true) (dp : PyData.depthAll (dats xs) ≤ d) (sh : PyData.showableAll (dats xs) = true) (ln : tls (dats xs) ≤ n) : xs.length ≤ n ∧ ∀ x ∈ xs, isD x = true ∧ DOk d n (dat x) := by
  induction xs generalizing n with
  | nil => exact ⟨Nat.zero_le _, nofun⟩
  | cons x xs ih =>
    simp only [isDs, Bool.and_eq_true] at h1
    simp only [dats, PyData.canLayAll0, Bool.and_eq_true] at lay
    simp only [dats, PyData.depthAll] at dp
    simp only [dats, PyData.showableAll, Bool.and_eq_true] at sh
    simp only [dats, tls] at ln
    obtain ⟨a, b⟩ := ih h1.2 lay.2 (by omega) sh.2 (n := n - 1) (by omega)
    refine ⟨by simp only [List.length_cons]; omega, fun y m => ?_⟩
    rcases List.mem_cons.mp m with rfl | m
    · exact ⟨h1.1, lay.1, by omega, sh.1, by omega⟩
    · have := b y m
      exact ⟨this.1, this.2.mono (Nat.le_refl _) (by omega)⟩
theorem nar_ok (ok : USok U us) {cs : List Ty} {n : Nat} (I : StoIn U cs n ρ ν st) {T : String} : ∀ (k : Nat) (t : Ty) (x y : Option Ty) (v : PV), nar us cs T k t = some (x, y) → t.has U ρ ν v →
    ∃ ty, tyP st v = some ty ∧ (isiB ty T = true → ∃ t', x = some t' ∧ t'.has U ρ ν v) ∧ (isiB ty T = false → ∃ t', y = some t' ∧ t'.has U ρ ν v)
  | 0, _, _, _, _, h, _ => by cases h
  | k + 1, t, x, y, v, h, g => by
    have plain : ∀ t, narP cs T t = some (x, y) → t.has U ρ ν v → ∃ ty, tyP st v = some ty ∧ (isiB ty T = true → ∃ t', x = some t' ∧ t'.has U ρ ν v) ∧ (isiB ty T = false → ∃ t', y = some t' ∧ t'.has U ρ ν v) := fun t h g => by
      unfold narP at h
      split at h
      · rename_i ty e
        refine ⟨ty, tyT_ok I e g, ?_⟩
        split at h
        · rename_i hb
          cases h
          exact ⟨fun _ => ⟨t, rfl, g⟩, fun z => by rw [hb] at z; cases z⟩
        · rename_i hb
          cases h
          exact ⟨fun z => absurd z hb, fun _ => ⟨t, rfl, g⟩⟩
      · cases h
    cases t with
    | or a b =>
      simp only [nar] at h
      split at h
      · rename_i x1 y1 x2 y2 e1 e2
        cases h
        simp only [Ty.has] at g
        rcases g with g | g
        · obtain ⟨ty, a1, a2, a3⟩ := nar_ok ok I k a _ _ v e1 g
          exact ⟨ty, a1, fun z => orO_l (a2 z), fun z => orO_l (a3 z)⟩
        · obtain ⟨ty, a1, a2, a3⟩ := nar_ok ok I k b _ _ v e2 g
          exact ⟨ty, a1, fun z => orO_r (a2 z), fun z => orO_r (a3 z)⟩
      · cases h
    | usr u =>
      have g' := g
      simp only [Ty.has] at g
      simp only [nar] at h
      cases e : nar us cs T k (us.unf u) with
      | none => rw [e] at h; cases h
      | some p =>
        obtain ⟨x1, y1⟩ := p
        obtain ⟨ty, a1, a2, a3⟩ := nar_ok ok I k _ _ _ v e (ok.unf u v ρ ν g)
        rw [e] at h
        refine ⟨ty, a1, ?_⟩
        cases x1 with
        | none =>
          cases y1 with
          | none => cases h; exact ⟨a2, a3⟩
          | some _ => cases h; exact ⟨fun z => (by obtain ⟨_, q, _⟩ := a2 z; cases q), fun _ => ⟨_, rfl, g'⟩⟩
        | some _ =>
          cases y1 with
          | none => cases h; exact ⟨fun _ => ⟨_, rfl, g'⟩, fun z => by obtain ⟨_, q, _⟩ := a3 z; cases q⟩
          | some _ => cases h; exact ⟨a2, a3⟩
    | dat d m =>
      have g' := g
      simp only [Ty.has] at g
      obtain ⟨hD, D⟩ := g
      have tyv : ∃ ty, tyP st v = some ty := by
        cases v <;> first | exact ⟨_, rfl⟩ | (simp [isD] at hD)
      obtain ⟨ty, ht⟩ := tyv
      refine ⟨ty, ht, ?_⟩
      simp only [nar] at h
      split at h
      · subst T
        cases h
        refine ⟨fun z => ⟨_, rfl, ?_⟩, fun _ => ⟨_, rfl, g'⟩⟩
        cases v <;> simp only [tyP, Option.some.injEq] at ht <;> first | (subst ht; simp [isiB] at z; done) | (simp [isD] at hD; done) | skip
        rename_i xs
        have lay := D.lay; have dp := D.deep; have sh := D.show_; have ln := D.len
        simp only [dat, PyData.canLay0] at lay
        simp only [dat, PyData.depth] at dp
        simp only [dat, PyData.showable] at sh
        simp only [dat, tl] at ln
        obtain ⟨p1, p2⟩ := dat_parts (d := d - 1) (n := m) (by simpa only [isD] using hD) lay (by omega) sh (by omega)
        simp only [Ty.has]
        exact ⟨xs, rfl, Nat.zero_le _, p1, trivial, p2⟩
      · split at h
        · subst T
          cases h
          refine ⟨fun z => ⟨_, rfl, ?_⟩, fun _ => ⟨_, rfl, g'⟩⟩
          have key : ∀ xs, (v = .lst xs ∨ v = .fls xs) → (Ty.seq .anl (.dat (d - 1) m) 0 m none).has U ρ ν v := fun xs hv => by
            have hd : dat v = .list (dats xs) := by rcases hv with rfl | rfl <;> simp only [dat]
            have hs : isDs xs = true := by rcases hv with rfl | rfl <;> simpa only [isD] using hD
            rw [hd] at D
            have lay := D.lay; have dp := D.deep; have sh := D.show_; have ln := D.len
            simp only [PyData.canLay0] at lay
            simp only [PyData.depth] at dp
            simp only [PyData.showable] at sh
            simp only [tl] at ln
            obtain ⟨p1, p2⟩ := dat_parts (d := d - 1) (n := m) hs lay (by omega) sh (by omega)
            simp only [Ty.has]
            exact ⟨xs, hv, Nat.zero_le _, p1, trivial, p2⟩
          cases v <;> simp only [tyP, Option.some.injEq] at ht <;> first | (subst ht; simp [isiB] at z; done) | (simp [isD] at hD; done) | exact key _ (.inl rfl) | exact key _ (.inr rfl)
        · split at h
          · subst T
            cases h
            refine ⟨fun z => ⟨_, rfl, ?_⟩, fun _ => ⟨_, rfl, g'⟩⟩
            cases v <;> simp only [tyP, Option.some.injEq] at ht <;> first | (subst ht; simp [isiB] at z; done) | (simp [isD] at hD; done) | skip
            have lay := D.lay; have ln := D.len
            simp only [dat, tl] at ln
            simp only [Ty.has]
            exact ⟨_, rfl, lay, Nat.zero_le _, by omega, trivial⟩
          · split at h
            · subst T
              cases h
              refine ⟨fun z => ⟨_, rfl, ?_⟩, fun _ => ⟨_, rfl, g'⟩⟩
              cases v <;> simp only [tyP, Option.some.injEq] at ht <;> first | (subst ht; simp [isiB] at z; done) | (simp [isD] at hD; done) | exact bl_any
            · split at h
              · cases h
                exact ⟨fun _ => ⟨_, rfl, g'⟩, fun _ => ⟨_, rfl, g'⟩⟩
              · cases h
    | _ => exact plain _ (by simpa only [nar] using h) g
theorem setEv_ok {i : Nat} {o : Option Ty} {v : PV} (I : In U S ρ ν env st) (e : env[i]? = some (some v)) (h : ∃ t, o = some t ∧ t.has U ρ ν v) : ∃ T, setEv S i o = some T ∧ In U T ρ ν env st := by
  obtain ⟨t, rfl, g⟩ := h
  exact ⟨_, rfl, I.1.know e g, I.2⟩
theorem bindT_ok {i : Nat} {t : Ty} {v : PV} {Q : Envp → Sto → Prop} (I : In U S ρ ν env st) (g : t.has U ρ ν v) (P : PostG U (bindT i t S) ρ ν st Q) : Q (env.set i (some v)) st := by
  have plain : ∀ T, T = (⟨S.ev.set i (some t), S.cs, S.n⟩ : AS) → PostG U T ρ ν st Q → Q (env.set i (some v)) st := fun T hT P => P ρ ν st _ .refl (by subst hT; exact ⟨I.1.set g, I.2⟩)
  have fresh : ∀ (t' : Ty) (len : Nat), t'.has U ρ (ν ++ [len]) v → PostG U ⟨S.ev.set i (some t'), S.cs, S.n + 1⟩ ρ ν st Q → Q (env.set i (some v)) st := fun t' len g' P => by
    have hp : ν <+: ν ++ [len] := List.prefix_append _ _
    refine P ρ (ν ++ [len]) st _ ⟨List.prefix_rfl, hp, .refl, fun _ h => .inl h⟩ ⟨(I.1.ext List.prefix_rfl hp).set g', I.2.rl, I.2.nd, by simp [I.2.nl], fun k t a e1 e2 => ?_⟩
    obtain ⟨xs, q1, q2⟩ := I.2.at_ k t a e1 e2
    exact ⟨xs, q1, q2.ext List.prefix_rfl hp⟩
  unfold bindT at P
  split at P
  · rename_i k t' lo hi
    split at P
    · exact plain _ rfl P
    · simp only [Ty.has] at g
      obtain ⟨xs, e, a, b, c, d⟩ := g
      refine fresh _ xs.length ?_ P
      simp only [Ty.has]
      exact ⟨xs, e, a, b, by simp only [idOk]; rw [← I.2.nl]; simp, fun x m => (d x m).ext List.prefix_rfl (List.prefix_append _ _)⟩
  · rename_i lo hi
    split at P
    · exact plain _ rfl P
    · simp only [Ty.has] at g
      obtain ⟨s, e, o, a, b, c⟩ := g
      refine fresh _ s.length ?_ P
      simp only [Ty.has]
      exact ⟨s, e, o, a, b, by simp only [idOk]; rw [← I.2.nl]; simp⟩
  · exact plain _ rfl P
theorem wipeA_ok {ev : List (Option Ty)} : ∀ (vs : List Nat), EnvIn U ev ρ ν env → EnvIn U (wipeA ev vs) ρ ν (wipeP env vs)
  | [], h => h
  | v :: vs, h => by
    have ih := wipeA_ok vs h
    simp only [wipeA, wipeP]
    refine ⟨by simp [ih.len], fun j t e => ?_⟩
    by_cases hj : j = v
    · subst hj
      have hlt := (List.getElem?_eq_some_iff.mp e).1
      rw [List.length_set] at hlt
      rw [List.getElem?_set_self hlt] at e
      cases e
    · rw [List.getElem?_set_ne (Ne.symm hj)] at e ⊢
      exact ih.at_ j t e
theorem noRef_ok (ok : USok U us) {t : Ty} {v : PV} (h : noRef us t = true) (g : t.has U ρ ν v) : ∀ n, v ≠ .ref n := fun n hn => by
  subst hn
  have plain : ∀ t, (Ty.bd us 30 t).isSome = true → t.has U ρ ν (.ref n) → False := fun t h g => by
    cases e : Ty.bd us 30 t with
    | none => rw [e] at h; cases h
    | some p => have := (bd_ok ok 30 t p.1 p.2 _ e g).1; simp [isD] at this
  cases t with
  | tup _ => simp only [Ty.has] at g; obtain ⟨_, z, _⟩ := g; cases z
  | lst _ => simp only [Ty.has] at g; obtain ⟨_, z, _⟩ := g; cases z
  | seq q _ _ _ _ =>
    simp only [Ty.has] at g
    obtain ⟨_, z, _⟩ := g
    cases q
    · cases z
    · cases z
    · cases z
    · rcases z with z | z <;> cases z
  | _ => exact plain _ (by simpa only [noRef] using h) g
theorem guard_free {v : PV} {xs : List PV} (h : ∀ n, v ≠ .ref n) : ∀ s, gdOf v xs s := fun s => by
  cases v with
  | ref n => exact absurd rfl (h n)
  | _ => trivial
theorem itP_seq {v : PV} {xs : List PV} (h : seqP st v = some xs) : itP st v = some xs := by
  cases v with
  | str _ => cases h
  | _ => exact h
theorem itA_ok (ok : USok U us) {cs : List Ty} {n : Nat} (I : StoIn U cs n ρ ν st) {t : Ty} {s : SV} {v : PV} (h : itA us t cs = some s) (g : t.has U ρ ν v) : ∃ xs, itP st v = some xs ∧ s.has U ρ ν xs ∧ ∀ s', gdOf v xs s' := by
  unfold itA at h
  split at h
  · rename_i l hh e
    cases h
    obtain ⟨z, rfl, o1, o2, o3⟩ := lenB_ok e g
    refine ⟨_, rfl, ⟨by simpa [Str.length] using o2, by simpa [Str.length] using o3, fun x m => ?_⟩, fun _ => trivial⟩
    obtain ⟨c, mc, rfl⟩ := List.mem_map.mp m
    simp only [Ty.has]
    refine ⟨_, rfl, ?_, Nat.le_refl _, Nat.le_refl _, trivial⟩
    have := Array.all_eq_true_iff_forall_mem.mp o1 c (Array.mem_toList_iff.mp mc)
    show (#[c] : Array Nat).all _ = true
    simpa using this
  · split at h
    · rename_i hr
      split at h
      · rename_i q _ s' hv
        cases h
        obtain ⟨xs, V, S, _⟩ := view_ok ok I 10 t q _ _ v hv g
        exact ⟨xs, itP_seq V.sq, S, guard_free (noRef_ok ok hr g)⟩
      · cases h
    · cases h
theorem rg_ok {lo hi a b i j : Int} {s : Sy} (h1 : lo ≤ i) (h2 : i ≤ hi) (h3 : a ≤ j) (h4 : j ≤ b) (hs : ∀ k, k < j → s.ok ν k) : (rgA lo hi s a b).has U ρ ν (rgP i (j - i).toNat) := by
  unfold rgA
  split
  · rename_i h
    have e1 : i = lo := by omega
    have e2 : j = b := by omega
    subst e1; subst e2
    have key : ∀ (l : List Nat), Ty.hasL U ρ ν (l.map fun k : Nat => Ty.int (some (i + (k : Nat))) (some (i + (k : Nat))) .no) (l.map fun k : Nat => PV.int (i + (k : Nat))) := by
      intro l
      induction l with
      | nil => simp [Ty.hasL]
      | cons k l ih =>
        simp only [List.map_cons, Ty.hasL]
        refine ⟨_, _, rfl, ?_, ih⟩
        simp only [Ty.has]
        exact ⟨_, rfl, Int.le_refl _, Int.le_refl _, trivial⟩
    exact key _
  · refine ⟨by rw [rgP_len]; omega, by rw [rgP_len]; omega, fun x m => ?_⟩
    obtain ⟨k, hk, rfl⟩ := rgP_mem m
    simp only [Ty.has, geO, leO]
    exact ⟨_, rfl, by omega, by omega, hs _ (by omega)⟩
theorem below_ok {s : Sy} {j k : Int} (h : s.ok ν j) (hk : k < j) : (below s).ok ν k := by
  cases s with
  | eq id off => obtain ⟨l, q, r⟩ := h; exact ⟨l, q, by omega⟩
  | _ => exact trivial
theorem hasL_fixEn : ∀ {ts : List Ty} {xs : List PV} (k : Nat), Ty.hasL U ρ ν ts xs → Ty.hasL U ρ ν (fixEn k ts) (xs.mapIdx fun i y => PV.tup [.int ((k + i : Nat)), y])
  | [], _, k, h => by simp only [Ty.hasL] at h; subst h; simp [fixEn, Ty.hasL]
  | t :: ts, _, k, h => by
    simp only [Ty.hasL] at h
    obtain ⟨y, ys, rfl, a, b⟩ := h
    have ih := hasL_fixEn (k + 1) b
    rw [List.mapIdx_cons]
    simp only [fixEn, Ty.hasL]
    refine ⟨_, _, rfl, ?_, ?_⟩
    · simp only [Ty.has, Ty.hasL]
      exact ⟨_, rfl, _, _, rfl, ⟨_, rfl, Int.le_refl _, Int.le_refl _, trivial⟩, _, _, rfl, a, rfl⟩
    · have e : (fun (i : Nat) (y : PV) => PV.tup [.int ((k + 1 + i : Nat)), y]) = (fun (i : Nat) (y : PV) => PV.tup [.int ((k + (i + 1) : Nat)), y]) := by
        funext i y
        rw [show k + 1 + i = k + (i + 1) by omega]
      rw [e] at ih
      exact ih
theorem enA_ok (ok : USok U us) {cs : List Ty} {n : Nat} (I : StoIn U cs n ρ ν st) {t : Ty} {s : SV} {v : PV} (h : enA us t cs = some s) (g : t.has U ρ ν v) : ∃ xs, seqP st v = some xs ∧ s.has U ρ ν (enP xs) ∧ ∀ s', gdOf v xs s' := by
  unfold enA at h
  split at h
  · rename_i hr
    split at h
    · rename_i q _ ts hv
      cases h
      obtain ⟨xs, V, S, _⟩ := view_ok ok I 10 t q _ _ v hv g
      refine ⟨xs, V.sq, ?_, guard_free (noRef_ok ok hr g)⟩
      have := hasL_fixEn 0 S
      simp only [Nat.zero_add] at this
      exact this
    · rename_i q id t' lo hi hv
      cases h
      obtain ⟨xs, V, S, hid⟩ := view_ok ok I 10 t q _ _ v hv g
      refine ⟨xs, V.sq, ?_, guard_free (noRef_ok ok hr g)⟩
      obtain ⟨a, b, c⟩ := S
      have hl : (enP xs).length = xs.length := by simp [enP]
      refine ⟨by omega, by omega, fun x m => ?_⟩
      obtain ⟨k, hk, rfl⟩ := List.getElem_of_mem m
      have hk' : k < xs.length := by omega
      simp only [enP, List.getElem_mapIdx]
      simp only [Ty.has, Ty.hasL, geO, leO]
      refine ⟨_, rfl, _, _, rfl, ⟨_, rfl, by omega, by omega, ?_⟩, _, _, rfl, c _ (List.getElem_mem hk'), rfl⟩
      cases id with
      | none => exact trivial
      | some id => exact ⟨_, hid, by omega⟩
    · cases h
  · cases h
theorem hasL_rep {t : Ty} : ∀ {xs : List PV}, (∀ x ∈ xs, t.has U ρ ν x) → Ty.hasL U ρ ν (List.replicate xs.length t) xs
  | [], _ => by simp [Ty.hasL]
  | x :: xs, h => by
    simp only [List.length_cons, List.replicate_succ, Ty.hasL]
    exact ⟨_, _, rfl, h x List.mem_cons_self, hasL_rep fun y m => h y (List.mem_cons_of_mem _ m)⟩
theorem splitT_ok {s : SV} {n : Nat} {ts : List Ty} {xs : List PV} (h : splitT s n = some ts) (S : s.has U ρ ν xs) : xs.length = n ∧ Ty.hasL U ρ ν ts xs := by
  cases s with
  | fix us =>
    simp only [splitT] at h
    split at h
    · cases h; exact ⟨by rw [hasL_len S]; assumption, S⟩
    · cases h
  | rep t lo hi =>
    simp only [splitT] at h
    split at h
    · rename_i hn
      cases h
      obtain ⟨a, b, c⟩ := S
      have : xs.length = n := by omega
      refine ⟨this, ?_⟩
      rw [← this]
      exact hasL_rep c
    · cases h
theorem starV_ok (ok : USok U us) {cs : List Ty} {n : Nat} (I : StoIn U cs n ρ ν st) {t : Ty} {s : SV} {v : PV} (h : starV us cs t = some s) (g : t.has U ρ ν v) : ∃ xs, unpS v = some xs ∧ xs.length ≤ sizeLine ∧ s.has U ρ ν xs := by
  unfold starV at h
  split at h
  · rename_i l hh e
    split at h
    · cases h
      obtain ⟨z, rfl, o1, o2, o3⟩ := lenB_ok e g
      have hl : (signsP z).length = z.length := by simp [signsP, Str.length]
      refine ⟨signsP z, rfl, by omega, by omega, by omega, fun x m => ?_⟩
      simp only [signsP, List.mem_map] at m
      obtain ⟨c, hc, rfl⟩ := m
      simp only [Ty.has]
      refine ⟨_, rfl, ?_, Nat.le_refl _, Nat.le_refl _, trivial⟩
      have o := o1
      unfold PyData.strOk at o ⊢
      rw [Array.all_eq_true'] at o
      have := o c (by simpa using hc)
      simpa using this
    · cases h
  · split at h
    · rename_i id s' e
      split at h
      · cases h
        obtain ⟨xs, V, hs, _⟩ := view_ok ok I 10 t .tup id _ v e g
        cases V.tp rfl
        have := SV.len_ok hs
        exact ⟨xs, rfl, by omega, hs⟩
      · cases h
    · cases h
theorem starT_ok {s z : SV} {n i : Nat} {as bs : List Ty} {xs : List PV} (h : starT s n i = some (as, z, bs)) (S : s.has U ρ ν xs) : n ≤ xs.length + 1 ∧ Ty.hasL U ρ ν as (xs.take i) ∧ z.has U ρ ν ((xs.drop i).take (xs.length + 1 - n)) ∧ Ty.hasL U ρ ν bs ((xs.drop i).drop (xs.length + 1 - n)) := by
  cases s with
  | fix us =>
    simp only [starT] at h
    split at h
    · cases h
      rw [hasL_len S]
      exact ⟨by omega, hasL_take _ S, hasL_take _ (hasL_drop _ S), hasL_drop _ (hasL_drop _ S)⟩
    · cases h
  | rep t lo hi =>
    simp only [starT] at h
    split at h
    · rename_i hn
      cases h
      obtain ⟨a, b, c⟩ := S
      refine ⟨by omega, ?_, ⟨by rw [List.length_take, List.length_drop]; omega, by rw [List.length_take, List.length_drop]; omega, fun x m => c x (List.mem_of_mem_drop (List.mem_of_mem_take m))⟩, ?_⟩
      · have := hasL_rep (U := U) (ρ := ρ) (ν := ν) (t := t) (xs := xs.take i) fun x m => c x (List.mem_of_mem_take m)
        rw [List.length_take, Nat.min_eq_left (by omega)] at this
        exact this
      · have := hasL_rep (U := U) (ρ := ρ) (ν := ν) (t := t) (xs := (xs.drop i).drop (xs.length + 1 - n)) fun x m => c x (List.mem_of_mem_drop (List.mem_of_mem_drop m))
        rw [List.length_drop, List.length_drop, show xs.length - i - (xs.length + 1 - n) = n - 1 - i by omega] at this
        exact this
    · cases h
end
end Pv

/-! AiA: expressions by types are right. -/
namespace Pv
open PySem PySem.Spec L2
section
variable {U : UT} {us : US} {ρ ρ' ν ν' : List Nat} {st st' : Sto} {env : Envp} {S : AS}
theorem take_pre {α : Type} {xs ys : List α} (h : xs <+: ys) : ys.take xs.length = xs := by
  obtain ⟨t, rfl⟩ := h
  simp
theorem back_ok (ok : USok U us) {c : List Ty} {n : Nat} (h : leX us c n S = true) (E : EnvIn U S.ev ρ ν env) (I : StoIn U c n ρ' ν' st') (s : Step ρ ν st ρ' ν' st') (hc : ρ.length = S.cs.length) (hn : ν.length = S.n) : StoIn U S.cs S.n ρ ν st' := by
  have := (AS.le_ok (S := ⟨S.ev, c, n⟩) (T := S) ok h (E.step s) I).2
  have e1 : ρ'.take S.cs.length = ρ := by rw [← hc]; exact take_pre s.r
  have e2 : ν'.take S.n = ν := by rw [← hn]; exact take_pre s.n
  rw [e1, e2] at this
  exact this
theorem turn_ok (ok : USok U us) {g : WG} {tt : WT} {te : WE} {bind : AS → Option AS} {tt' : AS → Option BR} {el : AS → Option XR} {ty : Ty} {o : Option Ty} {sure : Bool} (h : oneLc us S bind tt' el = some (o, sure))
    (hg : ∀ S1, bind S = some S1 → ∀ ρ ν env st x Q, In U S ρ ν env st → ty.has U ρ ν x → PostG U S1 ρ ν st Q → g x env st Q)
    (ht : ∀ T p, tt' T = some p → ∀ ρ ν env st Q, In U T ρ ν env st → PostB U p ρ ν st env Q → tt env st Q)
    (he : ∀ T r, el T = some r → ∀ ρ ν env st Q, In U T ρ ν env st → PostX U r ρ ν st env Q → te env st Q)
    {x : PV} (I : In U S ρ ν env st) (gx : ty.has U ρ ν x) {P1 : PV → Sto → Prop} {P2 : Sto → Prop}
    (k1 : ∀ y st' t, o = some t → t.has U ρ ν y → StoIn U S.cs S.n ρ ν st' → Gr ρ st st' → P1 y st')
    (k2 : ∀ st', sure = false → StoIn U S.cs S.n ρ ν st' → Gr ρ st st' → P2 st') :
    g x env st fun env2 st2 => tt env2 st2 fun b st3 => if b = true then te env2 st3 P1 else P2 st3 := by
  unfold oneLc at h
  split at h
  · cases h
  · rename_i S1 hb
    split at h
    · cases h
    · rename_i St Sf htt
      split at h
      · rename_i hF
        refine hg S1 hb ρ ν env st x _ I gx fun ρ1 ν1 st1 env1 s1 I1 => ?_
        refine ht S1 _ htt ρ1 ν1 env1 st1 _ I1 fun b st2 ⟨T, ρ2, ν2, hT, s2, I2⟩ => ?_
        cases b with
        | false =>
          rw [if_neg Bool.false_ne_true]
          simp only [BR.at, Bool.false_eq_true, if_false] at hT
          subst hT
          refine k2 st2 ?_ (back_ok ok hF I.1 I2.2 (s1.trans s2) I.2.rl I.2.nl) (s1.trans s2).g
          cases St with
          | none => cases h; rfl
          | some S2 =>
            simp only at h
            split at h
            · cases h
            · split at h
              · cases h; rfl
              · cases h
        | true =>
          rw [if_pos rfl]
          simp only [BR.at, if_true] at hT
          subst hT
          simp only at h
          split at h
          · cases h
          · rename_i t c n _ hel
            split at h
            · rename_i hq
              cases h
              simp only [Bool.and_eq_true] at hq
              refine he T _ hel ρ2 ν2 env1 st2 _ I2 fun ρ3 ν3 st3 y s3 I3 g3 _ => ?_
              have ss := (s1.trans s2).trans s3
              refine k1 y st3 _ rfl ?_ (back_ok ok hq.1 I.1 I3 ss I.2.rl I.2.nl) ss.g
              have := sub_ok (n := S.cs.length) (m := S.n) ok 25 _ _ y hq.2 g3
              have e1 : ρ3.take S.cs.length = ρ := by rw [← I.2.rl]; exact take_pre ss.r
              have e2 : ν3.take S.n = ν := by rw [← I.2.nl]; exact take_pre ss.n
              rw [e1, e2] at this
              exact this
            · cases h
      · cases h
/-- what is kept of each -/
def Kept (U : UT) (ρ ν : List Nat) : List (Option Ty × Bool) → List PV → Prop
  | [], ys => ys = []
  | (none, _) :: ps, ys => Kept U ρ ν ps ys
  | (some t, sure) :: ps, ys => (∃ y zs, ys = y :: zs ∧ t.has U ρ ν y ∧ Kept U ρ ν ps zs) ∨ (sure = false ∧ Kept U ρ ν ps ys)
theorem lcGo_ok {gd : Sto → Prop} (hgd : ∀ s, gd s) {g : WG} {tt : WT} {te : WE} {one : Ty → Option (Option Ty × Bool)} (E : EnvIn U S.ev ρ ν env)
    (turn : ∀ ty o sure, one ty = some (o, sure) → ∀ (st : Sto) (x : PV) (P1 : PV → Sto → Prop) (P2 : Sto → Prop), In U S ρ ν env st → ty.has U ρ ν x →
      (∀ y st' t, o = some t → t.has U ρ ν y → StoIn U S.cs S.n ρ ν st' → Gr ρ st st' → P1 y st') → (∀ st', sure = false → StoIn U S.cs S.n ρ ν st' → Gr ρ st st' → P2 st') →
      g x env st fun env2 st2 => tt env2 st2 fun b st3 => if b = true then te env2 st3 P1 else P2 st3) :
    ∀ (ts : List Ty) (ps : List (Option Ty × Bool)) (items acc : List PV) (st : Sto) (kk : List PV → Sto → Prop), fixLc us one ts = some ps → Ty.hasL U ρ ν ts items → StoIn U S.cs S.n ρ ν st → acc.length + items.length ≤ sizeLine →
      (∀ ys st', Gr ρ st st' → StoIn U S.cs S.n ρ ν st' → Kept U ρ ν ps ys → kk (acc ++ ys) st') → lcGo gd g tt te env items acc st kk
  | [], ps, items, acc, st, kk, h, hi, I, hl, k => by
    simp only [Ty.hasL] at hi
    subst hi
    simp only [fixLc, Option.some.injEq] at h
    subst h
    exact ⟨hgd st, by simpa using k [] st .refl I (by simp only [Kept])⟩
  | t :: ts, ps, items, acc, st, kk, h, hi, I, hl, k => by
    simp only [Ty.hasL] at hi
    obtain ⟨x, xs, rfl, gx, hi⟩ := hi
    simp only [fixLc] at h
    split at h
    · rename_i p ps' e1 e2
      cases h
      obtain ⟨o, sure⟩ := p
      simp only [List.length_cons] at hl
      refine ⟨hgd st, ?_⟩
      refine turn t o sure e1 st x _ _ ⟨E, I⟩ gx (fun y st1 t' ho gy I1 g1 => ⟨by omega, ?_⟩) (fun st1 hs I1 g1 => ?_)
      · subst ho
        refine lcGo_ok hgd E turn ts ps' xs (acc ++ [y]) st1 kk e2 hi I1 (by simp; omega) fun ys st2 g2 I2 K => ?_
        have := k (y :: ys) st2 (g1.trans g2) I2 (by simp only [Kept]; exact .inl ⟨y, ys, rfl, gy, K⟩)
        simpa using this
      · refine lcGo_ok hgd E turn ts ps' xs acc st1 kk e2 hi I1 (by omega) fun ys st2 g2 I2 K => ?_
        refine k ys st2 (g1.trans g2) I2 ?_
        cases o with
        | none => simpa only [Kept] using K
        | some t' => simp only [Kept]; exact .inr ⟨hs, K⟩
    · cases h
theorem kept_fix : ∀ {ps : List (Option Ty × Bool)} {ys : List PV}, ps.all (fun p => p.1.isNone || p.2) = true → Kept U ρ ν ps ys → Ty.hasL U ρ ν (ps.filterMap (·.1)) ys
  | [], _, _, k => by simp only [Kept] at k; subst k; simp [Ty.hasL]
  | (none, b) :: ps, ys, h, k => by
    simp only [List.all_cons, Bool.and_eq_true] at h
    simp only [Kept] at k
    have := kept_fix h.2 k
    simpa [List.filterMap_cons] using this
  | (some t, b) :: ps, ys, h, k => by
    simp only [List.all_cons, Bool.and_eq_true, Option.isNone_some, Bool.false_or] at h
    simp only [Kept] at k
    rcases k with ⟨y, zs, rfl, gy, k⟩ | ⟨z, _⟩
    · have := kept_fix h.2 k
      simp only [List.filterMap_cons, Ty.hasL]
      exact ⟨y, zs, rfl, gy, this⟩
    · rw [h.1] at z; cases z
theorem kept_rep : ∀ {ps : List (Option Ty × Bool)} {ys : List PV}, Kept U ρ ν ps ys → (ps.countP fun p => p.1.isSome && p.2) ≤ ys.length ∧ ys.length ≤ (ps.countP fun p => p.1.isSome) ∧ ∀ y ∈ ys, ∃ t ∈ ps.filterMap (·.1), t.has U ρ ν y
  | [], _, k => by simp only [Kept] at k; subst k; simp
  | (none, b) :: ps, ys, k => by
    simp only [Kept] at k
    have := kept_rep k
    simpa [List.filterMap_cons, List.countP_cons] using this
  | (some t, b) :: ps, ys, k => by
    simp only [Kept] at k
    rcases k with ⟨y, zs, rfl, gy, k⟩ | ⟨rfl, k⟩
    · obtain ⟨a, c, d⟩ := kept_rep k
      simp only [List.countP_cons, List.length_cons, Option.isSome_some, Bool.true_and, if_true, List.filterMap_cons]
      refine ⟨by split <;> omega, by omega, fun z m => ?_⟩
      rcases List.mem_cons.mp m with rfl | m
      · exact ⟨t, List.mem_cons_self, gy⟩
      · obtain ⟨u, mu, hu⟩ := d z m
        exact ⟨u, List.mem_cons_of_mem _ mu, hu⟩
    · obtain ⟨a, c, d⟩ := kept_rep k
      simp only [List.countP_cons, Option.isSome_some, Bool.true_and, Bool.false_eq_true, if_false, if_true, List.filterMap_cons]
      refine ⟨by omega, by omega, fun z m => ?_⟩
      obtain ⟨u, mu, hu⟩ := d z m
      exact ⟨u, List.mem_cons_of_mem _ mu, hu⟩
theorem fixLc_rep {one : Ty → Option (Option Ty × Bool)} {t : Ty} {p : Option Ty × Bool} (h : one t = some p) : ∀ n, fixLc us one (List.replicate n t) = some (List.replicate n p)
  | 0 => rfl
  | n + 1 => by simp only [List.replicate_succ, fixLc, h, fixLc_rep h n]
theorem lcA_ok (ok : USok U us) {gd : Sto → Prop} (hgd : ∀ s, gd s) {g : WG} {tt : WT} {te : WE} {one : Ty → Option (Option Ty × Bool)} {s z : SV} (I : In U S ρ ν env st)
    (turn : ∀ ty o sure, one ty = some (o, sure) → ∀ (st : Sto) (x : PV) (P1 : PV → Sto → Prop) (P2 : Sto → Prop), In U S ρ ν env st → ty.has U ρ ν x →
      (∀ y st' t, o = some t → t.has U ρ ν y → StoIn U S.cs S.n ρ ν st' → Gr ρ st st' → P1 y st') → (∀ st', sure = false → StoIn U S.cs S.n ρ ν st' → Gr ρ st st' → P2 st') →
      g x env st fun env2 st2 => tt env2 st2 fun b st3 => if b = true then te env2 st3 P1 else P2 st3)
    (h : lcA us S s one = some z) {items : List PV} (hi : s.has U ρ ν items) {kk : List PV → Sto → Prop}
    (k : ∀ ys st', Gr ρ st st' → StoIn U S.cs S.n ρ ν st' → z.has U ρ ν ys → kk ys st') : lcGo gd g tt te env items [] st kk := by
  cases s with
  | fix ts =>
    simp only [lcA] at h
    split at h
    · rename_i hl
      split at h
      · rename_i ps hp
        have hlen := hasL_len hi
        refine lcGo_ok hgd I.1 turn ts ps items [] st kk hp hi I.2 (by have : (100 : Nat) ≤ sizeLine := by decide
                                                                       simp only [List.length_nil]; omega) fun ys st' g1 I1 K => ?_
        refine k ys st' g1 I1 ?_
        unfold lcRes at h
        split at h
        · rename_i ha
          cases h
          exact kept_fix ha K
        · split at h
          · rename_i t ht
            cases h
            obtain ⟨a, b, c⟩ := kept_rep K
            refine ⟨a, b, fun y m => ?_⟩
            obtain ⟨u, mu, hu⟩ := c y m
            exact up_ok ok I1 ht mu hu
          · cases h
      · cases h
    · cases h
  | rep t lo hi' =>
    obtain ⟨a, b, c⟩ := hi
    simp only [lcA] at h
    split at h
    · rename_i t' sure h1
      split at h
      · rename_i hz
        cases h
        refine lcGo_ok (us := us) hgd I.1 turn (List.replicate items.length t) _ items [] st kk (fixLc_rep (us := us) h1 _) (hasL_rep c) I.2 (by simp only [List.length_nil]; omega) fun ys st' g1 I1 K => ?_
        refine k ys st' g1 I1 ?_
        obtain ⟨p, q, r⟩ := kept_rep K
        simp only [List.countP_replicate, Option.isSome_some, Bool.true_and, if_true] at p q
        refine ⟨?_, by omega, fun y m => ?_⟩
        · cases sure with
          | true => simp only [if_true] at p ⊢; omega
          | false => simp
        · obtain ⟨u, mu, hu⟩ := r y m
          rw [List.mem_filterMap] at mu
          obtain ⟨p, mp, hp⟩ := mu
          rw [List.mem_replicate] at mp
          rw [mp.2] at hp
          cases hp
          exact hu
      · cases h
    · rename_i sure h1
      cases h
      have hz : items.length ≤ sizeLine ∨ ¬ items.length ≤ sizeLine := by omega
      -- nothing is kept: no bound is needed
      have key : ∀ (items : List PV) (st : Sto), (∀ x ∈ items, t.has U ρ ν x) → StoIn U S.cs S.n ρ ν st → (∀ st', Gr ρ st st' → StoIn U S.cs S.n ρ ν st' → kk [] st') → lcGo gd g tt te env items [] st kk := by
        intro items
        induction items with
        | nil => intro st _ I1 k1; exact ⟨hgd st, k1 st .refl I1⟩
        | cons x xs ih =>
          intro st hx I1 k1
          refine ⟨hgd st, turn t none sure h1 st x _ _ ⟨I.1, I1⟩ (hx x List.mem_cons_self) (fun y st' t' hq => by cases hq) fun st' _ I2 g2 => ?_⟩
          exact ih st' (fun y m => hx y (List.mem_cons_of_mem _ m)) I2 fun st2 g3 I3 => k1 st2 (g2.trans g3) I3
      exact key items st c I.2 fun st' g1 I1 => k [] st' g1 I1 (show Ty.hasL U ρ ν [] [] by simp only [Ty.hasL])
    · cases h
end
end Pv

/-! AiB: expressions by types are right, all kinds. -/
namespace Pv
open PySem PySem.Spec L2
section
variable {U : UT} {us : US} {φ : Nat → Spc} {call : Nat → List Ty → List Ty → Nat → Option Rt}
theorem varOf_eq {e : QE} {i : Nat} (h : varOf e = some i) : e = .var i := by
  cases e <;> first | cases h | skip
  rfl
theorem toE {r : Rt} {ρ ρ' ν ν' : List Nat} {st st' : Sto} {env : Envp} {Q : PV → Sto → Prop} (P : PostX U (r, none) ρ ν st env Q) (s : Step ρ ν st ρ' ν' st') : PostE U r ρ' ν' st' Q :=
  fun ρ2 ν2 st2 v s2 I2 g2 => P.none (s.trans s2) I2 g2
theorem toE' {t : Ty} {c : List Ty} {n : Nat} {ev : List (Option Ty)} {ρ ρ' ν ν' : List Nat} {st st' : Sto} {env : Envp} {Q : PV → Sto → Prop} (P : PostX U ((t, c, n), defBr t ⟨ev, c, n⟩) ρ ν st env Q) (E : EnvIn U ev ρ ν env) (s : Step ρ ν st ρ' ν' st') : PostE U (t, c, n) ρ' ν' st' Q :=
  fun ρ2 ν2 st2 v s2 I2 g2 => P.dflt (s.trans s2) E I2 g2
theorem bl_has {f g b : Bool} {ρ ν : List Nat} (h : (if b = true then g else f) = true) : (Ty.bl f g).has U ρ ν (.bl b) := by
  simp only [Ty.has]; exact ⟨b, rfl, h⟩
mutual
theorem evE_ok (ok : USok U us) (hc : OkC U φ call) : ∀ (e : QE) (S : AS) (r : XR), evE us call e S = some r → ∀ ρ ν env st Q, In U S ρ ν env st → PostX U r ρ ν st env Q → e.den φ env st Q
  | .var i, S, r, h, ρ, ν, env, st, Q, I, P => by
    simp only [evE] at h
    split at h
    · rename_i t e
      cases h
      obtain ⟨v, e1, g⟩ := I.1.at_ i t e
      exact ⟨v, e1, P.dflt .refl I.1 I.2 g⟩
    · cases h
  | .cst v, S, r, h, ρ, ν, env, st, Q, I, P => by
    simp only [evE] at h
    split at h
    · rename_i t e
      cases h
      exact P.dflt .refl I.1 I.2 (cstT_ok e)
    · cases h
  | .op o a b, S, r, h, ρ, ν, env, st, Q, I, P => by
    simp only [evE] at h
    split at h
    · rename_i ta c1 n1 _ e1
      split at h
      · rename_i tb c2 n2 _ e2
        split at h
        · rename_i t c3 n3 e3
          cases h
          refine evE_ok ok hc a S _ e1 ρ ν env st _ I fun ρ1 ν1 st1 x s1 I1 g1 _ => ?_
          refine evE_ok ok hc b _ _ e2 ρ1 ν1 env st1 _ ⟨I.1.step s1, I1⟩ fun ρ2 ν2 st2 y s2 I2 g2 _ => ?_
          exact opA_ok ok I2 e3 (g1.ext s2.r s2.n) g2 (toE' P I.1 (s1.trans s2))
        · cases h
      · cases h
    · cases h
  | .tup as, S, r, h, ρ, ν, env, st, Q, I, P => by
    simp only [evE] at h
    split at h
    · rename_i ts c n e1
      split at h
      · rename_i hl
        cases h
        refine evA_ok ok hc as S _ e1 ρ ν env st _ I fun ρ1 ν1 st1 vs s1 I1 g1 => ⟨by rw [hasL_len g1]; exact hl, ?_⟩
        exact P.none s1 I1 (by simp only [Ty.has]; exact ⟨vs, rfl, g1⟩)
      · cases h
    · cases h
  | .lst m as, S, r, h, ρ, ν, env, st, Q, I, P => by
    simp only [evE] at h
    split at h
    · rename_i ts c n e1
      split at h
      · rename_i hl
        cases h
        refine evA_ok ok hc as S _ e1 ρ ν env st _ I fun ρ1 ν1 st1 vs s1 I1 g1 => ⟨by rw [hasL_len g1]; exact hl, ?_⟩
        exact newL_ok (toE P s1) I1 (by simp only [Ty.has]; exact ⟨vs, rfl, g1⟩)
      · cases h
    · cases h
  | .ite t a b, S, r, h, ρ, ν, env, st, Q, I, P => by
    simp only [evE] at h
    split at h
    · rename_i St Sf e1
      split at h
      · rename_i r1 _ q1 _ e2 e3
        split at h
        · rename_i J hJ
          cases h
          obtain ⟨j1, j2, j3, j4⟩ := Rt.join_ok hJ
          refine evT_ok ok hc t S _ e1 ρ ν env st _ I fun k st1 ⟨T, ρ1, ν1, hT, s1, I1⟩ => ?_
          cases k with
          | true =>
            simp only [BR.at, if_true, Option.some.injEq] at hT
            subst hT
            rw [if_pos rfl]
            refine evE_ok ok hc a _ _ e2 ρ1 ν1 env st1 _ I1 fun ρ2 ν2 st2 v s2 I2 g2 _ => ?_
            obtain ⟨ρ3, ν3, s3, I3, g3⟩ := Rt.to ok j3 (s1.trans s2) I2 g2 (by rw [I.2.rl]; exact j1) (by rw [I.2.nl]; exact j2)
            exact P.dflt s3 I.1 I3 g3
          | false =>
            simp only [BR.at, Bool.false_eq_true, if_false, Option.some.injEq] at hT
            subst hT
            rw [if_neg Bool.false_ne_true]
            refine evE_ok ok hc b _ _ e3 ρ1 ν1 env st1 _ I1 fun ρ2 ν2 st2 v s2 I2 g2 _ => ?_
            obtain ⟨ρ3, ν3, s3, I3, g3⟩ := Rt.to ok j4 (s1.trans s2) I2 g2 (by rw [I.2.rl]; exact j1) (by rw [I.2.nl]; exact j2)
            exact P.dflt s3 I.1 I3 g3
        · cases h
      · cases h
    · rename_i St e1
      split at h
      · rename_i r1 _ e2
        cases h
        refine evT_ok ok hc t S _ e1 ρ ν env st _ I fun k st1 ⟨T, ρ1, ν1, hT, s1, I1⟩ => ?_
        cases k with
        | true =>
          simp only [BR.at, if_true, Option.some.injEq] at hT
          subst hT
          rw [if_pos rfl]
          exact evE_ok ok hc a _ _ e2 ρ1 ν1 env st1 _ I1 fun ρ2 ν2 st2 v s2 I2 g2 _ => P.none (s1.trans s2) I2 g2
        | false => simp only [BR.at, Bool.false_eq_true, if_false] at hT; cases hT
      · cases h
    · rename_i Sf e1
      split at h
      · rename_i r1 _ e2
        cases h
        refine evT_ok ok hc t S _ e1 ρ ν env st _ I fun k st1 ⟨T, ρ1, ν1, hT, s1, I1⟩ => ?_
        cases k with
        | true => simp only [BR.at, if_true] at hT; cases hT
        | false =>
          simp only [BR.at, Bool.false_eq_true, if_false, Option.some.injEq] at hT
          subst hT
          rw [if_neg Bool.false_ne_true]
          exact evE_ok ok hc b _ _ e2 ρ1 ν1 env st1 _ I1 fun ρ2 ν2 st2 v s2 I2 g2 _ => P.none (s1.trans s2) I2 g2
      · cases h
    · cases h
  | .andV a b, S, r, h, ρ, ν, env, st, Q, I, P => by
    simp only [evE] at h
    split at h
    · rename_i _ St Sf e1
      refine evE_ok ok hc a S _ e1 ρ ν env st _ I fun ρ0 ν0 st1 v _ _ _ hb => ?_
      obtain ⟨k, rfl, T, ρ1, ν1, hT, s1, I1⟩ := hb _ rfl
      refine ⟨k, rfl, ?_⟩
      cases k with
      | false =>
        simp only [BR.at, Bool.false_eq_true, if_false] at hT
        subst hT
        rw [if_neg Bool.false_ne_true]
        cases St with
        | none =>
          cases h
          exact P ρ1 ν1 st1 _ s1 I1.2 (bl_has rfl) fun p hp => by cases hp; exact ⟨false, rfl, T, ρ1, ν1, rfl, s1, I1⟩
        | some St =>
          simp only at h
          split at h
          · rename_i rb Tt Tf e2
            split at h
            · rename_i J F' hJ hF
              cases h
              obtain ⟨j1, j2, j3, j4⟩ := Rt.join_ok hJ
              obtain ⟨ρ3, ν3, s3, I3, g3⟩ := Rt.to ok j3 s1 I1.2 (bl_has rfl : (Ty.bl true false).has U ρ1 ν1 (.bl false)) (by rw [I.2.rl]; exact j1) (by rw [I.2.nl]; exact j2)
              refine P ρ3 ν3 st1 _ s3 I3 g3 fun p hp => ?_
              cases hp
              obtain ⟨T', ρ4, ν4, e5, s4, I4⟩ := joinB_ok ok hF I.2.rl I.2.nl (.inl rfl) I1 s1
              exact ⟨false, rfl, T', ρ4, ν4, e5, s4, I4⟩
            · cases h
          · rename_i rb e2
            split at h
            · rename_i J hJ
              cases h
              obtain ⟨j1, j2, j3, j4⟩ := Rt.join_ok hJ
              obtain ⟨ρ3, ν3, s3, I3, g3⟩ := Rt.to ok j3 s1 I1.2 (bl_has rfl : (Ty.bl true false).has U ρ1 ν1 (.bl false)) (by rw [I.2.rl]; exact j1) (by rw [I.2.nl]; exact j2)
              exact P.none s3 I3 g3
            · cases h
          · cases h
      | true =>
        simp only [BR.at, if_true] at hT
        subst hT
        rw [if_pos rfl]
        cases Sf with
        | none =>
          simp only at h
          refine evE_ok ok hc b T _ h ρ1 ν1 env st1 _ I1 fun ρ2 ν2 st2 w s2 I2 g2 hb2 => ?_
          refine P ρ2 ν2 st2 w (s1.trans s2) I2 g2 fun p hp => ?_
          obtain ⟨k, e5, T', ρ4, ν4, e6, s4, I4⟩ := hb2 p hp
          exact ⟨k, e5, T', ρ4, ν4, e6, s1.trans s4, I4⟩
        | some F =>
          simp only at h
          split at h
          · rename_i rb Tt Tf e2
            split at h
            · rename_i J F' hJ hF
              cases h
              obtain ⟨j1, j2, j3, j4⟩ := Rt.join_ok hJ
              refine evE_ok ok hc b T _ e2 ρ1 ν1 env st1 _ I1 fun ρ2 ν2 st2 w s2 I2 g2 hb2 => ?_
              obtain ⟨ρ3, ν3, s3, I3, g3⟩ := Rt.to ok j4 (s1.trans s2) I2 g2 (by rw [I.2.rl]; exact j1) (by rw [I.2.nl]; exact j2)
              refine P ρ3 ν3 st2 _ s3 I3 g3 fun p hp => ?_
              cases hp
              obtain ⟨k, e5, T', ρ4, ν4, e6, s4, I4⟩ := hb2 _ rfl
              refine ⟨k, e5, ?_⟩
              cases k with
              | true => exact ⟨T', ρ4, ν4, e6, s1.trans s4, I4⟩
              | false =>
                simp only [BR.at, Bool.false_eq_true, if_false] at e6
                obtain ⟨T2, ρ5, ν5, e7, s5, I5⟩ := joinB_ok ok hF I.2.rl I.2.nl (.inr e6) I4 (s1.trans s4)
                exact ⟨T2, ρ5, ν5, e7, s5, I5⟩
            · cases h
          · rename_i rb e2
            split at h
            · rename_i J hJ
              cases h
              obtain ⟨j1, j2, j3, j4⟩ := Rt.join_ok hJ
              refine evE_ok ok hc b T _ e2 ρ1 ν1 env st1 _ I1 fun ρ2 ν2 st2 w s2 I2 g2 hb2 => ?_
              obtain ⟨ρ3, ν3, s3, I3, g3⟩ := Rt.to ok j4 (s1.trans s2) I2 g2 (by rw [I.2.rl]; exact j1) (by rw [I.2.nl]; exact j2)
              exact P.none s3 I3 g3
            · cases h
          · cases h
    · cases h
  | .orV a b, S, r, h, ρ, ν, env, st, Q, I, P => by
    simp only [evE] at h
    split at h
    · rename_i _ St Sf e1
      refine evE_ok ok hc a S _ e1 ρ ν env st _ I fun ρ0 ν0 st1 v _ _ _ hb => ?_
      obtain ⟨k, rfl, T, ρ1, ν1, hT, s1, I1⟩ := hb _ rfl
      refine ⟨k, rfl, ?_⟩
      cases k with
      | true =>
        simp only [BR.at, if_true] at hT
        subst hT
        rw [if_pos rfl]
        cases Sf with
        | none =>
          cases h
          exact P ρ1 ν1 st1 _ s1 I1.2 (bl_has rfl) fun p hp => by cases hp; exact ⟨true, rfl, T, ρ1, ν1, rfl, s1, I1⟩
        | some Sf =>
          simp only at h
          split at h
          · rename_i rb Tt Tf e2
            split at h
            · rename_i J F' hJ hF
              cases h
              obtain ⟨j1, j2, j3, j4⟩ := Rt.join_ok hJ
              obtain ⟨ρ3, ν3, s3, I3, g3⟩ := Rt.to ok j3 s1 I1.2 (bl_has rfl : (Ty.bl false true).has U ρ1 ν1 (.bl true)) (by rw [I.2.rl]; exact j1) (by rw [I.2.nl]; exact j2)
              refine P ρ3 ν3 st1 _ s3 I3 g3 fun p hp => ?_
              cases hp
              obtain ⟨T', ρ4, ν4, e5, s4, I4⟩ := joinB_ok ok hF I.2.rl I.2.nl (.inl rfl) I1 s1
              exact ⟨true, rfl, T', ρ4, ν4, e5, s4, I4⟩
            · cases h
          · rename_i rb e2
            split at h
            · rename_i J hJ
              cases h
              obtain ⟨j1, j2, j3, j4⟩ := Rt.join_ok hJ
              obtain ⟨ρ3, ν3, s3, I3, g3⟩ := Rt.to ok j3 s1 I1.2 (bl_has rfl : (Ty.bl false true).has U ρ1 ν1 (.bl true)) (by rw [I.2.rl]; exact j1) (by rw [I.2.nl]; exact j2)
              exact P.none s3 I3 g3
            · cases h
          · cases h
      | false =>
        simp only [BR.at, Bool.false_eq_true, if_false] at hT
        subst hT
        rw [if_neg Bool.false_ne_true]
        cases St with
        | none =>
          simp only at h
          refine evE_ok ok hc b T _ h ρ1 ν1 env st1 _ I1 fun ρ2 ν2 st2 w s2 I2 g2 hb2 => ?_
          refine P ρ2 ν2 st2 w (s1.trans s2) I2 g2 fun p hp => ?_
          obtain ⟨k, e5, T', ρ4, ν4, e6, s4, I4⟩ := hb2 p hp
          exact ⟨k, e5, T', ρ4, ν4, e6, s1.trans s4, I4⟩
        | some F =>
          simp only at h
          split at h
          · rename_i rb Tt Tf e2
            split at h
            · rename_i J F' hJ hF
              cases h
              obtain ⟨j1, j2, j3, j4⟩ := Rt.join_ok hJ
              refine evE_ok ok hc b T _ e2 ρ1 ν1 env st1 _ I1 fun ρ2 ν2 st2 w s2 I2 g2 hb2 => ?_
              obtain ⟨ρ3, ν3, s3, I3, g3⟩ := Rt.to ok j4 (s1.trans s2) I2 g2 (by rw [I.2.rl]; exact j1) (by rw [I.2.nl]; exact j2)
              refine P ρ3 ν3 st2 _ s3 I3 g3 fun p hp => ?_
              cases hp
              obtain ⟨k, e5, T', ρ4, ν4, e6, s4, I4⟩ := hb2 _ rfl
              refine ⟨k, e5, ?_⟩
              cases k with
              | false => exact ⟨T', ρ4, ν4, e6, s1.trans s4, I4⟩
              | true =>
                simp only [BR.at, if_true] at e6
                obtain ⟨T2, ρ5, ν5, e7, s5, I5⟩ := joinB_ok ok hF I.2.rl I.2.nl (.inr e6) I4 (s1.trans s4)
                exact ⟨T2, ρ5, ν5, e7, s5, I5⟩
            · cases h
          · rename_i rb e2
            split at h
            · rename_i J hJ
              cases h
              obtain ⟨j1, j2, j3, j4⟩ := Rt.join_ok hJ
              refine evE_ok ok hc b T _ e2 ρ1 ν1 env st1 _ I1 fun ρ2 ν2 st2 w s2 I2 g2 hb2 => ?_
              obtain ⟨ρ3, ν3, s3, I3, g3⟩ := Rt.to ok j4 (s1.trans s2) I2 g2 (by rw [I.2.rl]; exact j1) (by rw [I.2.nl]; exact j2)
              exact P.none s3 I3 g3
            · cases h
          · cases h
    · cases h
  | .notV a, S, r, h, ρ, ν, env, st, Q, I, P => by
    simp only [evE] at h
    split at h
    · rename_i t c n St Sf e1
      cases h
      refine evE_ok ok hc a S _ e1 ρ ν env st _ I fun ρ1 ν1 st1 v s1 I1 _ hb => ?_
      obtain ⟨k, rfl, T, ρ2, ν2, hT, s2, I2⟩ := hb _ rfl
      refine ⟨k, rfl, P ρ1 ν1 st1 _ s1 I1 (bl_has ?_) fun p hp => ?_⟩
      · cases k with
        | true => simp only [BR.at, if_true] at hT; subst hT; rfl
        | false => simp only [BR.at, Bool.false_eq_true, if_false] at hT; subst hT; rfl
      · cases hp
        refine ⟨!k, rfl, T, ρ2, ν2, ?_, s2, I2⟩
        cases k <;> exact hT
    · rename_i t c n e1
      split at h
      · rename_i f g e2
        cases h
        refine evE_ok ok hc a S _ e1 ρ ν env st _ I fun ρ1 ν1 st1 v s1 I1 g1 _ => ?_
        obtain ⟨k, hk, hh⟩ := truA_ok ok I1 e2 g1
        refine ⟨k, hk, P.dflt s1 I.1 I1 (bl_has ?_)⟩
        cases k <;> exact hh
      · cases h
    · cases h
  | .neg a, S, r, h, ρ, ν, env, st, Q, I, P => by
    simp only [evE] at h
    split at h
    · rename_i l hh s c n _ e1
      cases h
      refine evE_ok ok hc a S _ e1 ρ ν env st _ I fun ρ1 ν1 st1 v s1 I1 g1 _ => ?_
      simp only [Ty.has] at g1
      obtain ⟨i, rfl, a1, a2, _⟩ := g1
      exact ⟨i, rfl, P.none s1 I1 (by simp only [Ty.has]; exact ⟨_, rfl, geO_neg a2, leO_neg a1, trivial⟩)⟩
    · cases h
  | .chain o o' a b d, S, r, h, ρ, ν, env, st, Q, I, P => by
    simp only [evE] at h
    split at h
    · rename_i ta c1 n1 _ e1
      split at h
      · rename_i tb c2 n2 _ e2
        split at h
        · rename_i f g c3 n3 e3
          split at h
          · rename_i td c4 n4 _ e4
            split at h
            · rename_i f' g' c5 n5 e5
              split at h
              · rename_i J hJ
                cases h
                obtain ⟨j1, j2, j3, j4⟩ := Rt.join_ok hJ
                refine evE_ok ok hc a S _ e1 ρ ν env st _ I fun ρ1 ν1 st1 x s1 I1 g1 _ => ?_
                refine evE_ok ok hc b _ _ e2 ρ1 ν1 env st1 _ ⟨I.1.step s1, I1⟩ fun ρ2 ν2 st2 y s2 I2 g2 _ => ?_
                have s12 := s1.trans s2
                refine opA_ok ok I2 e3 (g1.ext s2.r s2.n) g2 fun ρ3 ν3 st3 z s3 I3 g3 => ?_
                have s13 := s12.trans s3
                simp only [Ty.has] at g3
                obtain ⟨k, rfl, _⟩ := g3
                refine ⟨k, rfl, ?_⟩
                cases k with
                | false =>
                  rw [if_neg Bool.false_ne_true]
                  obtain ⟨ρ4, ν4, s4, I4, g4⟩ := Rt.to ok j3 s13 I3 (bl_has rfl : (Ty.bl true false).has U ρ3 ν3 (.bl false)) (by rw [I.2.rl]; exact j1) (by rw [I.2.nl]; exact j2)
                  exact P.dflt s4 I.1 I4 g4
                | true =>
                  rw [if_pos rfl]
                  refine evE_ok ok hc d _ _ e4 ρ3 ν3 env st3 _ ⟨I.1.step s13, I3⟩ fun ρ4 ν4 st4 w s4 I4 g4 _ => ?_
                  refine opA_ok ok I4 e5 ((g2.ext s3.r s3.n).ext s4.r s4.n) g4 fun ρ5 ν5 st5 u s5 I5 g5 => ?_
                  obtain ⟨ρ6, ν6, s6, I6, g6⟩ := Rt.to ok j4 ((s13.trans s4).trans s5) I5 g5 (by rw [I.2.rl]; exact j1) (by rw [I.2.nl]; exact j2)
                  exact P.dflt s6 I.1 I6 g6
              · cases h
            · cases h
          · cases h
        · cases h
      · cases h
    · cases h
  | .call n f as, S, r, h, ρ, ν, env, st, Q, I, P => by
    simp only [evE] at h
    split at h
    · rename_i ts c k e1
      split at h
      · rename_i hl
        split at h
        · rename_i t c' k' e2
          cases h
          refine evA_ok ok hc as S _ e1 ρ ν env st _ I fun ρ1 ν1 st1 vs s1 I1 g1 => ⟨by rw [hasL_len g1]; exact hl, ?_⟩
          exact hc f ts c k _ e2 ρ1 ν1 st1 vs Q I1 g1 (toE' P I.1 s1)
        · cases h
      · cases h
    · cases h
  | .ca r' as, S, r, h, ρ, ν, env, st, Q, I, P => by
    simp only [evE] at h
    split at h
    · rename_i ts c k e1
      split at h
      · rename_i t c' k' e2
        cases h
        refine evA_ok ok hc as S _ e1 ρ ν env st _ I fun ρ1 ν1 st1 vs s1 I1 g1 => ?_
        exact caA_ok ok I1 e2 g1 (toE' P I.1 s1)
      · cases h
    · cases h
  | .isi T a, S, r, h, ρ, ν, env, st, Q, I, P => by
    simp only [evE] at h
    split at h
    · rename_i t c n _ e1
      split at h
      · rename_i x y e2
        cases h
        cases hv : varOf a with
        | none =>
          rw [hv] at P
          refine evE_ok ok hc a S _ e1 ρ ν env st _ I fun ρ1 ν1 st1 v s1 I1 g1 _ => ?_
          obtain ⟨ty, h1, h2, h3⟩ := nar_ok ok I1 10 t x y v e2 g1
          refine ⟨ty, h1, P.dflt s1 I.1 I1 (bl_has ?_)⟩
          cases hb : isiB ty T with
          | true => obtain ⟨_, rfl, _⟩ := h2 hb; rfl
          | false => obtain ⟨_, rfl, _⟩ := h3 hb; rfl
        | some i =>
          rw [hv] at P
          have := varOf_eq hv
          subst this
          simp only [evE] at e1
          split at e1
          · rename_i t' et
            cases e1
            obtain ⟨v, ev, gv⟩ := I.1.at_ i _ et
            obtain ⟨ty, h1, h2, h3⟩ := nar_ok ok I.2 10 _ x y v e2 gv
            refine ⟨v, ev, ty, h1, P ρ ν st _ .refl I.2 (bl_has ?_) fun p hp => ?_⟩
            · cases hb : isiB ty T with
              | true => obtain ⟨_, rfl, _⟩ := h2 hb; rfl
              | false => obtain ⟨_, rfl, _⟩ := h3 hb; rfl
            · cases hp
              refine ⟨_, rfl, ?_⟩
              cases hb : isiB ty T with
              | true =>
                obtain ⟨T', e5, I5⟩ := setEv_ok (S := ⟨S.ev, S.cs, S.n⟩) I ev (h2 hb)
                exact ⟨T', ρ, ν, e5, .refl, I5⟩
              | false =>
                obtain ⟨T', e5, I5⟩ := setEv_ok (S := ⟨S.ev, S.cs, S.n⟩) I ev (h3 hb)
                exact ⟨T', ρ, ν, e5, .refl, I5⟩
          · cases e1
      · cases h
    · cases h
  | .sl m a lo hi, S, r, h, ρ, ν, env, st, Q, I, P => by
    simp only [evE] at h
    split at h
    · rename_i t c n _ e1
      split at h
      · rename_i p c1 n1 e2
        split at h
        · rename_i q c2 n2 e3
          split at h
          · rename_i r' e4
            cases h
            refine evE_ok ok hc a S _ e1 ρ ν env st _ I fun ρ1 ν1 st1 v s1 I1 g1 _ => ?_
            refine evO_ok ok hc lo _ _ e2 ρ1 ν1 env st1 _ ⟨I.1.step s1, I1⟩ fun ρ2 ν2 st2 x s2 I2 g2 => ?_
            have s12 := s1.trans s2
            refine evO_ok ok hc hi _ _ e3 ρ2 ν2 env st2 _ ⟨I.1.step s12, I2⟩ fun ρ3 ν3 st3 y s3 I3 g3 => ?_
            exact slA_ok ok I3 e4 ((g1.ext s2.r s2.n).ext s3.r s3.n) g2 g3 (toE P (s12.trans s3))
          · cases h
        · cases h
      · cases h
    · cases h
  | .mt T r' o as, S, r, h, ρ, ν, env, st, Q, I, P => by
    simp only [evE] at h
    split at h
    · rename_i t c n _ e1
      split at h
      · rename_i ht
        split at h
        · rename_i ts c1 n1 e2
          split at h
          · rename_i r2 e3
            cases h
            refine evE_ok ok hc o S _ e1 ρ ν env st _ I fun ρ1 ν1 st1 v s1 I1 g1 _ => ⟨tyA_ok I1 ht g1, ?_⟩
            refine evA_ok ok hc as _ _ e2 ρ1 ν1 env st1 _ ⟨I.1.step s1, I1⟩ fun ρ2 ν2 st2 vs s2 I2 g2 => ?_
            exact mtA_ok ok I2 e3 (g1.ext s2.r s2.n) g2 (toE P (s1.trans s2))
          · cases h
        · cases h
      · cases h
    · cases h
  | .lc m it g t e own, S, r, h, ρ, ν, env, st, Q, I, P => by
    simp only [evE] at h
    split at h
    · rename_i s c n e1
      split at h
      · rename_i z e2
        split at h
        · rename_i hz
          cases h
          refine evI_ok ok hc it S _ e1 ρ ν env st _ I fun ρ1 ν1 st1 p s1 I1 g1 hgd => ?_
          have IW : In U ⟨wipeA S.ev own, c, n⟩ ρ1 ν1 (wipeP env own) st1 := ⟨wipeA_ok own (I.1.step s1), I1⟩
          refine lcA_ok ok hgd IW (fun ty o sure h1 st' x P1 P2 I' gx k1 k2 => ?_) e2 g1 fun ys st2 g2 I2 gz => ?_
          · exact turn_ok ok h1 (fun S1 hb ρ ν env st x Q I gx P => evG_ok ok hc g ty _ S1 hb ρ ν env st x Q I gx P) (fun T p hp ρ ν env st Q I P => evT_ok ok hc t T p hp ρ ν env st Q I P) (fun T r hr ρ ν env st Q I P => evE_ok ok hc e T r hr ρ ν env st Q I P) I' gx k1 k2
          · have s2 : Step ρ1 ν1 st1 ρ1 ν1 st2 := ⟨List.prefix_rfl, List.prefix_rfl, g2, fun _ h => .inl h⟩
            exact newL_ok (toE P (s1.trans s2)) I2 (SV.tyL gz)
        · cases h
      · cases h
    · cases h
  | .disp m ps, S, r, h, ρ, ν, env, st, Q, I, P => by
    simp only [evE] at h
    split at h
    · rename_i ks ts c n e1
      split at h
      · rename_i hk
        cases h
        simp only [Bool.and_eq_true, decide_eq_true_eq, Bool.not_eq_true'] at hk
        refine evP_ok ok hc ps S _ e1 ρ ν env st _ I fun ρ1 ν1 st1 qs s1 I1 k1 g1 => ⟨ks, k1, hk.1, ?_⟩
        rw [hk.2]
        exact P.none s1 I1 (by simp only [Ty.has]; exact ⟨_, rfl, g1⟩)
      · cases h
    · cases h
  | .dict0 m, S, r, h, ρ, ν, env, st, Q, I, P => by
    simp only [evE] at h
    split at h
    · cases h
    · rename_i hm
      cases h
      simp only [Bool.not_eq_true] at hm
      subst hm
      exact P.none .refl I.2 (by simp only [Ty.has, Ty.hasL]; exact ⟨[], rfl, rfl⟩)
theorem evA_ok (ok : USok U us) (hc : OkC U φ call) : ∀ (e : QA) (S : AS) (r : List Ty × List Ty × Nat), evA us call e S = some r → ∀ ρ ν env st Q, In U S ρ ν env st → PostAA U r ρ ν st Q → e.den φ env st Q
  | .nil, S, r, h, ρ, ν, env, st, Q, I, P => by
    simp only [evA, Option.some.injEq] at h
    subst h
    exact P ρ ν st [] .refl I.2 (by simp only [Ty.hasL])
  | .cons e as, S, r, h, ρ, ν, env, st, Q, I, P => by
    simp only [evA] at h
    split at h
    · rename_i t c n _ e1
      split at h
      · rename_i ts c1 n1 e2
        cases h
        refine evE_ok ok hc e S _ e1 ρ ν env st _ I fun ρ1 ν1 st1 v s1 I1 g1 _ => ?_
        refine evA_ok ok hc as _ _ e2 ρ1 ν1 env st1 _ ⟨I.1.step s1, I1⟩ fun ρ2 ν2 st2 vs s2 I2 g2 => ?_
        exact P ρ2 ν2 st2 _ (s1.trans s2) I2 (by simp only [Ty.hasL]; exact ⟨v, vs, rfl, g1.ext s2.r s2.n, g2⟩)
      · cases h
    · cases h
theorem evP_ok (ok : USok U us) (hc : OkC U φ call) : ∀ (e : QP) (S : AS) (r : List Key × List Ty × List Ty × Nat), evP us call e S = some r → ∀ ρ ν env st Q, In U S ρ ν env st → PostPP U r ρ ν st Q → wPairs (e.den φ) env st Q
  | .nil, S, r, h, ρ, ν, env, st, Q, I, P => by
    simp only [evP, Option.some.injEq] at h
    subst h
    exact P ρ ν st [] .refl I.2 rfl (by simp [Ty.hasL])
  | .cons k v as, S, r, h, ρ, ν, env, st, Q, I, P => by
    simp only [evP] at h
    split at h
    · rename_i tk c n _ e1
      split at h
      · rename_i key e2
        split at h
        · rename_i t c1 n1 _ e3
          split at h
          · rename_i ks ts c2 n2 e4
            cases h
            refine evE_ok ok hc k S _ e1 ρ ν env st _ I fun ρ1 ν1 st1 x s1 I1 g1 _ => ?_
            refine evE_ok ok hc v _ _ e3 ρ1 ν1 env st1 _ ⟨I.1.step s1, I1⟩ fun ρ2 ν2 st2 y s2 I2 g2 _ => ?_
            have s12 := s1.trans s2
            refine evP_ok ok hc as _ _ e4 ρ2 ν2 env st2 _ ⟨I.1.step s12, I2⟩ fun ρ3 ν3 st3 ps s3 I3 k3 g3 => ?_
            refine P ρ3 ν3 st3 _ (s12.trans s3) I3 ?_ (by simp only [List.map_cons, Ty.hasL]; exact ⟨y, _, rfl, g2.ext s3.r s3.n, g3⟩)
            simp only [List.map_cons, kPs, keyOf_ok e2 g1, k3]
          · cases h
        · cases h
      · cases h
    · cases h
theorem evT_ok (ok : USok U us) (hc : OkC U φ call) : ∀ (e : QT) (S : AS) (p : BR), evT us call e S = some p → ∀ ρ ν env st Q, In U S ρ ν env st → PostB U p ρ ν st env Q → e.den φ env st Q
  | .tru e, S, p, h, ρ, ν, env, st, Q, I, P => by
    simp only [evT] at h
    split at h
    · rename_i r p' e1
      cases h
      refine evE_ok ok hc e S _ e1 ρ ν env st _ I fun ρ1 ν1 st1 v s1 I1 g1 hb => ?_
      obtain ⟨k, rfl, B⟩ := hb _ rfl
      exact ⟨k, rfl, P k st1 B⟩
    · rename_i t c n e1
      split at h
      · rename_i f g e2
        refine evE_ok ok hc e S _ e1 ρ ν env st _ I fun ρ1 ν1 st1 v s1 I1 g1 _ => ?_
        obtain ⟨k, hk, hh⟩ := truA_ok ok I1 e2 g1
        obtain ⟨k', e5, B⟩ := defBr_ok (v := .bl k) h (bl_has hh : (Ty.bl f g).has U ρ1 ν1 (.bl k)) s1 (⟨I.1.step s1, I1⟩ : In U ⟨S.ev, c, n⟩ ρ1 ν1 env st1)
        cases e5
        exact ⟨k, hk, P k st1 B⟩
      · cases h
    · cases h
  | .val e, S, p, h, ρ, ν, env, st, Q, I, P => by
    simp only [evT] at h
    split at h
    · rename_i r p' e1
      cases h
      refine evE_ok ok hc e S _ e1 ρ ν env st _ I fun ρ1 ν1 st1 v s1 I1 g1 hb => ?_
      obtain ⟨k, rfl, B⟩ := hb _ rfl
      exact ⟨k, rfl, P k st1 B⟩
    · cases h
  | .and a b, S, p, h, ρ, ν, env, st, Q, I, P => by
    simp only [evT] at h
    split at h
    · rename_i T Sf e1
      split at h
      · rename_i Tt Tf e2
        split at h
        · rename_i F hF
          cases h
          refine evT_ok ok hc a S _ e1 ρ ν env st _ I fun k st1 ⟨T1, ρ1, ν1, hT, s1, I1⟩ => ?_
          cases k with
          | true =>
            simp only [BR.at, if_true, Option.some.injEq] at hT
            subst hT
            rw [if_pos rfl]
            refine evT_ok ok hc b _ _ e2 ρ1 ν1 env st1 _ I1 fun k2 st2 ⟨T2, ρ2, ν2, hT2, s2, I2⟩ => ?_
            refine P k2 st2 ?_
            cases k2 with
            | true => exact ⟨T2, ρ2, ν2, hT2, s1.trans s2, I2⟩
            | false =>
              simp only [BR.at, Bool.false_eq_true, if_false] at hT2
              obtain ⟨T3, ρ3, ν3, e3, s3, I3⟩ := joinB_ok ok hF I.2.rl I.2.nl (.inr hT2) I2 (s1.trans s2)
              exact ⟨T3, ρ3, ν3, e3, s3, I3⟩
          | false =>
            simp only [BR.at, Bool.false_eq_true, if_false] at hT
            rw [if_neg Bool.false_ne_true]
            obtain ⟨T3, ρ3, ν3, e3, s3, I3⟩ := joinB_ok ok hF I.2.rl I.2.nl (.inl hT) I1 s1
            exact P false st1 ⟨T3, ρ3, ν3, e3, s3, I3⟩
        · cases h
      · cases h
    · rename_i Sf e1
      cases h
      refine evT_ok ok hc a S _ e1 ρ ν env st _ I fun k st1 B => ?_
      cases k with
      | true => obtain ⟨T1, ρ1, ν1, hT, _⟩ := B; cases hT
      | false => rw [if_neg Bool.false_ne_true]; exact P false st1 B
    · cases h
  | .or a b, S, p, h, ρ, ν, env, st, Q, I, P => by
    simp only [evT] at h
    split at h
    · rename_i St F e1
      split at h
      · rename_i Tt Tf e2
        split at h
        · rename_i T hF
          cases h
          refine evT_ok ok hc a S _ e1 ρ ν env st _ I fun k st1 ⟨T1, ρ1, ν1, hT, s1, I1⟩ => ?_
          cases k with
          | false =>
            simp only [BR.at, Bool.false_eq_true, if_false, Option.some.injEq] at hT
            subst hT
            rw [if_neg Bool.false_ne_true]
            refine evT_ok ok hc b _ _ e2 ρ1 ν1 env st1 _ I1 fun k2 st2 ⟨T2, ρ2, ν2, hT2, s2, I2⟩ => ?_
            refine P k2 st2 ?_
            cases k2 with
            | false => exact ⟨T2, ρ2, ν2, hT2, s1.trans s2, I2⟩
            | true =>
              simp only [BR.at, if_true] at hT2
              obtain ⟨T3, ρ3, ν3, e3, s3, I3⟩ := joinB_ok ok hF I.2.rl I.2.nl (.inr hT2) I2 (s1.trans s2)
              exact ⟨T3, ρ3, ν3, e3, s3, I3⟩
          | true =>
            simp only [BR.at, if_true] at hT
            rw [if_pos rfl]
            obtain ⟨T3, ρ3, ν3, e3, s3, I3⟩ := joinB_ok ok hF I.2.rl I.2.nl (.inl hT) I1 s1
            exact P true st1 ⟨T3, ρ3, ν3, e3, s3, I3⟩
        · cases h
      · cases h
    · rename_i St e1
      cases h
      refine evT_ok ok hc a S _ e1 ρ ν env st _ I fun k st1 B => ?_
      cases k with
      | false => obtain ⟨T1, ρ1, ν1, hT, _⟩ := B; cases hT
      | true => rw [if_pos rfl]; exact P true st1 B
    · cases h
  | .not a, S, p, h, ρ, ν, env, st, Q, I, P => by
    simp only [evT] at h
    split at h
    · rename_i St Sf e1
      cases h
      refine evT_ok ok hc a S _ e1 ρ ν env st _ I fun k st1 ⟨T1, ρ1, ν1, hT, s1, I1⟩ => P (!k) st1 ⟨T1, ρ1, ν1, ?_, s1, I1⟩
      cases k <;> exact hT
    · cases h
  | .chain o o' a b d, S, p, h, ρ, ν, env, st, Q, I, P => by
    simp only [evT] at h
    split at h
    · rename_i ta c1 n1 _ e1
      split at h
      · rename_i tb c2 n2 _ e2
        split at h
        · rename_i f g c3 n3 e3
          split at h
          · rename_i td c4 n4 _ e4
            split at h
            · rename_i f' g' c5 n5 e5
              split at h
              · rename_i F hF
                cases h
                refine evE_ok ok hc a S _ e1 ρ ν env st _ I fun ρ1 ν1 st1 x s1 I1 g1 _ => ?_
                refine evE_ok ok hc b _ _ e2 ρ1 ν1 env st1 _ ⟨I.1.step s1, I1⟩ fun ρ2 ν2 st2 y s2 I2 g2 _ => ?_
                have s12 := s1.trans s2
                refine opA_ok ok I2 e3 (g1.ext s2.r s2.n) g2 fun ρ3 ν3 st3 z s3 I3 g3 => ?_
                have s13 := s12.trans s3
                simp only [Ty.has] at g3
                obtain ⟨k, rfl, hk⟩ := g3
                refine ⟨k, rfl, ?_⟩
                cases k with
                | false =>
                  rw [if_neg Bool.false_ne_true]
                  simp only [Bool.false_eq_true, if_false] at hk
                  obtain ⟨T3, ρ4, ν4, e6, s4, I4⟩ := joinB_ok (T := ⟨S.ev, c3, n3⟩) ok hF I.2.rl I.2.nl (.inl (if_pos hk)) ⟨I.1.step s13, I3⟩ s13
                  exact P false st3 ⟨T3, ρ4, ν4, e6, s4, I4⟩
                | true =>
                  rw [if_pos rfl]
                  refine evE_ok ok hc d _ _ e4 ρ3 ν3 env st3 _ ⟨I.1.step s13, I3⟩ fun ρ4 ν4 st4 w s4 I4 g4 _ => ?_
                  refine opA_ok ok I4 e5 ((g2.ext s3.r s3.n).ext s4.r s4.n) g4 fun ρ5 ν5 st5 u s5 I5 g5 => ?_
                  have s15 := (s13.trans s4).trans s5
                  simp only [Ty.has] at g5
                  obtain ⟨k2, rfl, hk2⟩ := g5
                  refine ⟨k2, rfl, P k2 st5 ?_⟩
                  cases k2 with
                  | true => simp only [if_true] at hk2; exact ⟨⟨S.ev, c5, n5⟩, ρ5, ν5, if_pos hk2, s15, I.1.step s15, I5⟩
                  | false =>
                    simp only [Bool.false_eq_true, if_false] at hk2
                    obtain ⟨T3, ρ6, ν6, e6, s6, I6⟩ := joinB_ok (T := ⟨S.ev, c5, n5⟩) ok hF I.2.rl I.2.nl (.inr (if_pos hk2)) ⟨I.1.step s15, I5⟩ s15
                    exact ⟨T3, ρ6, ν6, e6, s6, I6⟩
              · cases h
            · cases h
          · cases h
        · cases h
      · cases h
    · cases h
  | .yes, S, p, h, ρ, ν, env, st, Q, I, P => by
    simp only [evT, Option.some.injEq] at h
    subst h
    exact P true st ⟨S, ρ, ν, rfl, .refl, I⟩
theorem evO_ok (ok : USok U us) (hc : OkC U φ call) : ∀ (e : QO) (S : AS) (r : Pt × List Ty × Nat), evO us call e S = some r → ∀ ρ ν env st Q, In U S ρ ν env st → PostO' U r ρ ν st Q → e.den φ env st Q
  | .no, S, r, h, ρ, ν, env, st, Q, I, P => by
    simp only [evO, Option.some.injEq] at h
    subst h
    exact P ρ ν st none .refl I.2 rfl
  | .so e, S, r, h, ρ, ν, env, st, Q, I, P => by
    simp only [evO] at h
    split at h
    · rename_i l hh s c n _ e1
      cases h
      refine evE_ok ok hc e S _ e1 ρ ν env st _ I fun ρ1 ν1 st1 v s1 I1 g1 _ => ?_
      simp only [Ty.has] at g1
      obtain ⟨i, rfl, a, b, _⟩ := g1
      exact ⟨i, rfl, P ρ1 ν1 st1 _ s1 I1 ⟨i, rfl, a, b⟩⟩
    · cases h
theorem evI_ok (ok : USok U us) (hc : OkC U φ call) : ∀ (e : QI) (S : AS) (r : SV × List Ty × Nat), evI us call e S = some r → ∀ ρ ν env st Q, In U S ρ ν env st → PostI U r ρ ν st Q → e.den φ env st Q
  | .val e, S, r, h, ρ, ν, env, st, Q, I, P => by
    simp only [evI] at h
    split at h
    · rename_i t c n _ e1
      split at h
      · rename_i s e2
        cases h
        refine evE_ok ok hc e S _ e1 ρ ν env st _ I fun ρ1 ν1 st1 v s1 I1 g1 _ => ?_
        obtain ⟨xs, h1, h2, h3⟩ := itA_ok ok I1 e2 g1
        exact ⟨xs, h1, P ρ1 ν1 st1 _ s1 I1 h2 h3⟩
      · cases h
    · cases h
  | .rg1 as, S, r, h, ρ, ν, env, st, Q, I, P => by
    simp only [evI] at h
    split at h
    · rename_i l hh s c n e1
      split at h
      · rename_i hb
        cases h
        refine evA_ok ok hc as S _ e1 ρ ν env st _ I fun ρ1 ν1 st1 vs s1 I1 g1 => ?_
        obtain ⟨v, rfl, gv⟩ := hasL_one g1
        simp only [Ty.has, geO, leO] at gv
        obtain ⟨j, rfl, a, b, hs⟩ := gv
        refine ⟨j, rfl, ⟨by omega, by omega⟩, P ρ1 ν1 st1 _ s1 I1 ?_ fun _ => trivial⟩
        have := rg_ok (U := U) (ρ := ρ1) (ν := ν1) (lo := 0) (hi := 0) (i := 0) (Int.le_refl 0) (Int.le_refl 0) a b fun k hk => below_ok hs hk
        rw [Int.sub_zero] at this
        exact this
      · cases h
    · cases h
  | .rg2 as, S, r, h, ρ, ν, env, st, Q, I, P => by
    simp only [evI] at h
    split at h
    · rename_i l hh s0 l' hh' s c n e1
      split at h
      · rename_i hb
        cases h
        refine evA_ok ok hc as S _ e1 ρ ν env st _ I fun ρ1 ν1 st1 vs s1 I1 g1 => ?_
        obtain ⟨v, w, rfl, gv, gw⟩ := hasL_two g1
        simp only [Ty.has, geO, leO] at gv gw
        obtain ⟨i, rfl, a, b, _⟩ := gv
        obtain ⟨j, rfl, a', b', hs⟩ := gw
        refine ⟨i, j, rfl, ⟨by omega, by omega, by omega, by omega⟩, P ρ1 ν1 st1 _ s1 I1 ?_ fun _ => trivial⟩
        exact rg_ok a b a' b' fun k hk => below_ok hs hk
      · cases h
    · cases h
  | .en as, S, r, h, ρ, ν, env, st, Q, I, P => by
    simp only [evI] at h
    split at h
    · rename_i t c n e1
      split at h
      · rename_i s e2
        cases h
        refine evA_ok ok hc as S _ e1 ρ ν env st _ I fun ρ1 ν1 st1 vs s1 I1 g1 => ?_
        obtain ⟨v, rfl, gv⟩ := hasL_one g1
        obtain ⟨xs, h1, h2, h3⟩ := enA_ok ok I1 e2 gv
        exact ⟨v, xs, rfl, h1, P ρ1 ν1 st1 _ s1 I1 h2 h3⟩
      · cases h
    · cases h
theorem evG_ok (ok : USok U us) (hc : OkC U φ call) : ∀ (g : QG) (t : Ty) (S S' : AS), evG us call g t S = some S' → ∀ ρ ν env st x Q, In U S ρ ν env st → t.has U ρ ν x → PostG U S' ρ ν st Q → g.den φ x env st Q
  | .nm i, t, S, S', h, ρ, ν, env, st, x, Q, I, gx, P => by
    simp only [evG, Option.some.injEq] at h
    subst h
    exact bindT_ok I gx P
  | .tp n gs, t, S, S', h, ρ, ν, env, st, x, Q, I, gx, P => by
    simp only [evG] at h
    split at h
    · rename_i id s e1
      split at h
      · rename_i ts e2
        obtain ⟨xs, V, hs, _⟩ := view_ok ok I.2 10 t .tup id s x e1 gx
        obtain ⟨l1, l2⟩ := splitT_ok e2 hs
        exact ⟨xs, V.tp rfl, l1, evL_ok ok hc gs ts S S' h ρ ν env st xs Q I l2 P⟩
      · cases h
    · cases h
  | .ul n gs, t, S, S', h, ρ, ν, env, st, x, Q, I, gx, P => by
    simp only [evG] at h
    split at h
    · rename_i q id s e1
      split at h
      · cases h
      · rename_i hq
        split at h
        · rename_i ts e2
          obtain ⟨xs, V, hs, _⟩ := view_ok ok I.2 10 t q id s x e1 gx
          obtain ⟨l1, l2⟩ := splitT_ok e2 hs
          exact ⟨xs, V.ls hq, l1, evL_ok ok hc gs ts S S' h ρ ν env st xs Q I l2 P⟩
        · cases h
    · cases h
  | .ix o i, t, S, S', h, ρ, ν, env, st, x, Q, I, gx, P => by
    simp only [evG] at h
    split at h
    · rename_i k c n _ e1
      split at h
      · rename_i lo hi s c1 n1 _ e2
        refine evE_ok ok hc o S _ e1 ρ ν env st _ I fun ρ1 ν1 st1 v s1 I1 g1 _ => ?_
        refine evE_ok ok hc i _ _ e2 ρ1 ν1 env st1 _ ⟨I.1.step s1, I1⟩ fun ρ2 ν2 st2 w s2 I2 g2 _ => ?_
        have s12 := s1.trans s2
        simp only [Ty.has] at g1
        obtain ⟨a, ea, rfl⟩ := g1
        have ea2 := get_pre s2.r ea
        simp only [Ty.has] at g2
        obtain ⟨j, rfl, b1, b2, b3⟩ := g2
        have gx2 := gx.ext s12.r s12.n
        split at h
        · rename_i ts hsv
          obtain ⟨ys, q1, q2⟩ := cellSV_ok I2 hsv ea2
          split at h
          · rename_i jj hj
            split at h
            · rename_i hr
              cases h
              have := conO_ok hj b1 b2
              subst this
              have hl := hasL_len q2
              have hix : ixN ys.length j = some j.toNat := by
                unfold ixN; rw [if_pos hr.1, if_pos (by omega)]
              refine ⟨a, j, ys, j.toNat, rfl, rfl, q1, hix, P ρ2 ν2 _ env (s12.trans (Step.set ea2)) ⟨I.1.step s12, I2.set ea2 ?_⟩⟩
              simp only [Ty.has]
              exact ⟨_, rfl, hasL_set _ q2 gx2⟩
            · cases h
          · cases h
        · rename_i t' l hh hsv
          obtain ⟨ys, q1, c1, c2, c3⟩ := cellSV_ok I2 hsv ea2
          split at h
          · rename_i wt hw
            split at h
            · rename_i hr
              cases h
              have hin := inB_ok hr c1 (show idOk ν2 none ys.length from trivial) b1 b2 b3
              obtain ⟨jj, hj, _, _, _⟩ := atI_in (xs := ys) hin
              have hix : ∃ jj, ixN ys.length j = some jj := by
                unfold ixN
                rcases hin with hin | hin
                · rw [if_pos hin.1, if_pos hin.2]; exact ⟨_, rfl⟩
                · rw [if_neg (by omega), if_pos hin.1]; exact ⟨_, rfl⟩
              obtain ⟨jj, hix⟩ := hix
              refine ⟨a, j, ys, jj, rfl, rfl, q1, hix, P ρ2 ν2 _ env (s12.trans (Step.set ea2)) ⟨I.1.step s12, I2.set ea2 ?_⟩⟩
              simp only [Ty.has]
              refine ⟨_, rfl, by rw [List.length_set]; exact c1, by rw [List.length_set]; exact c2, trivial, fun y m => ?_⟩
              rcases List.mem_or_eq_of_mem_set m with m | m
              · exact up_ok ok I2 hw (by simp) (c3 y m)
              · subst m; exact up_ok ok I2 hw (by simp) gx2
            · cases h
          · cases h
        · cases h
      · cases h
    · cases h
  | .star m n i gs, t, S, S', h, ρ, ν, env, st, x, Q, I, gx, P => by
    simp only [evG] at h
    split at h
    · rename_i s e1
      split at h
      · rename_i as z bs e2
        obtain ⟨xs, V, lx, hs⟩ := starV_ok ok I.2 e1 gx
        obtain ⟨l1, l2, l3, l4⟩ := starT_ok e2 hs
        refine ⟨xs, V, lx, l1, ?_⟩
        refine newL_ok (t := z.ty .lst) (cs := S.cs) (n := S.n) (U := U) (ρ := ρ) (ν := ν) (fun ρ1 ν1 st1 y s1 I1 g1 => ?_) I.2 (SV.tyL l3)
        generalize mkL m (z.ty .lst) S.cs S.n = r at h I1 g1
        obtain ⟨t', c, k⟩ := r
        simp only at h
        refine evL_ok ok hc gs _ _ S' h ρ1 ν1 env st1 _ Q ⟨I.1.step s1, I1⟩ (hasL_app (hasL_app (l2.ext s1.r s1.n) (by simp only [Ty.hasL]; exact ⟨y, [], rfl, g1, rfl⟩)) (l4.ext s1.r s1.n)) fun ρ2 ν2 st2 env2 s2 I2 => P ρ2 ν2 st2 env2 (s1.trans s2) I2
      · cases h
    · cases h
theorem evL_ok (ok : USok U us) (hc : OkC U φ call) : ∀ (gs : QL) (ts : List Ty) (S S' : AS), evL us call gs ts S = some S' → ∀ ρ ν env st xs Q, In U S ρ ν env st → Ty.hasL U ρ ν ts xs → PostG U S' ρ ν st Q → gs.den φ xs env st Q
  | .nil, ts, S, S', h, ρ, ν, env, st, xs, Q, I, gx, P => by
    simp only [evL] at h
    split at h
    · cases h
      simp only [Ty.hasL] at gx
      exact ⟨gx, P ρ ν st env .refl I⟩
    · cases h
  | .cons g gs, ts, S, S', h, ρ, ν, env, st, xs, Q, I, gx, P => by
    simp only [evL] at h
    split at h
    · rename_i t ts'
      split at h
      · rename_i S1 e1
        simp only [Ty.hasL] at gx
        obtain ⟨y, ys, rfl, g1, g2⟩ := gx
        refine ⟨y, ys, rfl, evG_ok ok hc g t S S1 e1 ρ ν env st y _ I g1 fun ρ1 ν1 st1 env1 s1 I1 => ?_⟩
        exact evL_ok ok hc gs ts' S1 S' h ρ1 ν1 env1 st1 ys Q I1 (g2.ext s1.r s1.n) fun ρ2 ν2 st2 env2 s2 I2 => P ρ2 ν2 st2 env2 (s1.trans s2) I2
      · cases h
    · cases h
end
end
end Pv

/-! AiC: statements and defs by types. -/
namespace Pv
open PySem PySem.Spec L2
structure Out where
  nx : Option AS
  rt : Option Rt
  bk : Option AS
  ct : Option AS
def joinQ (us : US) (S : AS) : Option Rt → Option Rt → Option (Option Rt)
  | some a, some b => match Rt.join us S.cs.length S.n a b with
    | some c => some (some c)
    | none => none
  | some a, none => some (some a)
  | none, b => some b
/-- all ends of either -/
def Out.merge (us : US) (S : AS) (o p : Out) : Option Out := match joinB us S o.nx p.nx, joinQ us S o.rt p.rt, joinB us S o.bk p.bk, joinB us S o.ct p.ct with
  | some a, some b, some c, some d => some ⟨a, b, c, d⟩
  | _, _, _, _ => none
/-- a loop, one type for all turns -/
def loopC (us : US) (B : AS) (turn : AS → Option Out) (exact : Bool) : Nat → AS → Option Rt → Option AS → Option (AS × Option Rt × Option AS)
  | 0, S, rt, bk => if exact = true then some (S, rt, bk) else none
  | k + 1, S, rt, bk => match turn S with
    | none => none
    | some o => match joinB us B o.nx o.ct, joinQ us B rt o.rt, joinB us B bk o.bk with
      | some none, some rt', some bk' => some (S, rt', bk')
      | some (some S1), some rt', some bk' => if S1.le us S = true then some (S, rt', bk') else (match AS.join us B.cs.length B.n S S1 with
        | some S2 => loopC us B turn exact k S2 rt' bk'
        | none => none)
      | _, _, _ => none
/-- a loop, turn by turn -/
def loopX (us : US) (B : AS) (turn : Ty → AS → Option Out) : List Ty → AS → Option Rt → Option AS → Option (Option AS × Option Rt × Option AS)
  | [], S, rt, bk => some (some S, rt, bk)
  | t :: ts, S, rt, bk => match turn t S with
    | none => none
    | some o => match joinB us B o.nx o.ct, joinQ us B rt o.rt, joinB us B bk o.bk with
      | some none, some rt', some bk' => some (none, rt', bk')
      | some (some S1), some rt', some bk' => loopX us B turn ts S1 rt' bk'
      | _, _, _ => none
def loopEnd (us : US) (B : AS) : Option (Option AS × Option Rt × Option AS) → Option Out
  | some (F, rt, bk) => match joinB us B F bk with
    | some nx => some ⟨nx, rt, none, none⟩
    | none => none
  | none => none
def someF : Option (AS × Option Rt × Option AS) → Option (Option AS × Option Rt × Option AS)
  | some (F, rt, bk) => some (some F, rt, bk)
  | none => none
def quick (us : US) (B : AS) (turn : AS → Option Out) (S : AS) : Bool := match turn S with
  | some o => match joinB us B o.nx o.ct with
    | some (some S1) => S1.le us S
    | some none => true
    | none => false
  | none => false
def forA (us : US) (B : AS) (s : SV) (turn : Ty → AS → Option Out) : Option Out := match s with
  | .fix ts => match up us B.cs.length B.n ts with
    | some c => if quick us B (turn c) B = true then loopEnd us B (someF (loopC us B (turn c) true ts.length B none none)) else loopEnd us B (loopX us B turn ts B none none)
    | none => loopEnd us B (loopX us B turn ts B none none)
  | .rep t lo hi => loopEnd us B (someF (loopC us B (turn t) (decide (hi ≤ 64)) (min hi 64) B none none))
/-- marked statements -/
def QS.tags : QS → List (Nat × QS)
  | .seq a b => a.tags ++ b.tags
  | .ite _ a b => a.tags ++ b.tags
  | .for _ _ b => b.tags
  | .while _ b => b.tags
  | .tag i s => [(i, s)]
  | _ => []
def evS (us : US) (call : Nat → List Ty → List Ty → Nat → Option Rt) (tg : Nat → AS → Option Out) : QS → AS → Option Out
  | .next, S => some ⟨some S, none, none, none⟩
  | .seq a b, S => match evS us call tg a S with
    | some o => match o.nx with
      | none => some o
      | some S1 => match evS us call tg b S1 with
        | some p => Out.merge us S ⟨none, o.rt, o.bk, o.ct⟩ p
        | none => none
    | none => none
  | .ite t a b, S => match evT us call t S with
    | some (some St, some Sf) => match evS us call tg a St, evS us call tg b Sf with
      | some o, some p => Out.merge us S o p
      | _, _ => none
    | some (some St, none) => evS us call tg a St
    | some (none, some Sf) => evS us call tg b Sf
    | _ => none
  | .ret e, S => match evE us call e S with
    | some (r, _) => some ⟨none, some r, none, none⟩
    | none => none
  | .retN, S => some ⟨none, some (.non, S.cs, S.n), none, none⟩
  | .drop e, S => match evE us call e S with
    | some ((_, c, n), _) => some ⟨some ⟨S.ev, c, n⟩, none, none, none⟩
    | none => none
  | .brk, S => some ⟨none, none, some S, none⟩
  | .cnt, S => some ⟨none, none, none, some S⟩
  | .asg e g, S => match evE us call e S with
    | some ((t, c, n), _) => match evG us call g t ⟨S.ev, c, n⟩ with
      | some S1 => some ⟨some S1, none, none, none⟩
      | none => none
    | none => none
  | .par i j as, S => match evA us call as S with
    | some ([t, u], c, n) => some ⟨some (bindT j u (bindT i t ⟨S.ev, c, n⟩)), none, none, none⟩
    | _ => none
  | .for it g b, S => match evI us call it S with
    | some (s, c, n) => forA us ⟨S.ev, c, n⟩ s (fun ty S' => match evG us call g ty S' with
      | some S1 => evS us call tg b S1
      | none => none)
    | none => none
  | .while _ _, _ => none
  | .never, _ => none
  | .tag i _, S => tg i S
/-- a length gets a name -/
def idT (i : Nat) (S : AS) : AS := match S.ev[i]? with
  | some (some (.seq k t lo hi none)) => if lo = hi then S else ⟨S.ev.set i (some (.seq k t lo hi (some S.n))), S.cs, S.n + 1⟩
  | some (some (.str lo hi none)) => if lo = hi then S else ⟨S.ev.set i (some (.str lo hi (some S.n))), S.cs, S.n + 1⟩
  | _ => S
def idAll : Nat → AS → AS
  | 0, S => S
  | k + 1, S => idT k (idAll k S)
/-- the user's promises: of which level on, what comes of which types -/
abbrev SM := Nat → Option (Nat × (List Ty → List Ty → Nat → Option Rt))
def endA (us : US) (B : AS) (o : Out) : Option Rt := match o.bk, o.ct with
  | none, none => match joinQ us B o.rt (match o.nx with
      | some S => some (.non, S.cs, S.n)
      | none => none) with
    | some r => r
    | none => none
  | _, _ => none
abbrev TM := Nat → Option (Nat × (AS → Option Out))
def tgAt (tm : TM) (k i : Nat) (S : AS) : Option Out := match tm i with
  | some (lv, F) => if lv ≤ k then F S else none
  | none => none
def evF (us : US) (P : List QF) (sm : SM) (tm : TM) : Nat → Nat → List Ty → List Ty → Nat → Option Rt
  | 0, _, _, _, _ => none
  | k + 1, f, ts, cs, n => match sm f with
    | some (lv, F) => if lv ≤ k + 1 then F ts cs n else none
    | none => match P[f]? with
      | some F => match evS us (evF us P sm tm k) (tgAt tm k) F.body (idAll ts.length ⟨ts.map some ++ List.replicate (F.slots - ts.length) none, cs, n⟩) with
        | some o => endA us ⟨[], cs, n⟩ o
        | none => none
      | none => none
section
variable (U : UT)
def InO (ρ ν : List Nat) (st : Sto) (o : Option AS) (env : Envp) (st' : Sto) : Prop := ∃ S ρ2 ν2, o = some S ∧ Step ρ ν st ρ2 ν2 st' ∧ In U S ρ2 ν2 env st'
def RtO (ρ ν : List Nat) (st : Sto) (o : Option Rt) (v : PV) (st' : Sto) : Prop := ∃ r ρ2 ν2, o = some r ∧ Step ρ ν st ρ2 ν2 st' ∧ StoIn U r.2.1 r.2.2 ρ2 ν2 st' ∧ r.1.has U ρ2 ν2 v
/-- what is wanted holds at all ends -/
structure PostS (o : Out) (ρ ν : List Nat) (st : Sto) (D : EndsP) : Prop where
  nx : ∀ env' st', InO U ρ ν st o.nx env' st' → D.nx env' st'
  rt : ∀ v st', RtO U ρ ν st o.rt v st' → D.rt v st'
  bk : ∀ env' st', InO U ρ ν st o.bk env' st' → D.bk env' st'
  ct : ∀ env' st', InO U ρ ν st o.ct env' st' → D.ct env' st'
end
section
variable {U : UT} {us : US} {ρ ρ' ν ν' : List Nat} {st st' : Sto} {env : Envp} {S B : AS}
theorem InO.trans {o : Option AS} (s : Step ρ ν st ρ' ν' st') {env' : Envp} {st2 : Sto} (h : InO U ρ' ν' st' o env' st2) : InO U ρ ν st o env' st2 := let ⟨S, a, b, c, d, e⟩ := h; ⟨S, a, b, c, s.trans d, e⟩
theorem RtO.trans {o : Option Rt} (s : Step ρ ν st ρ' ν' st') {v : PV} {st2 : Sto} (h : RtO U ρ' ν' st' o v st2) : RtO U ρ ν st o v st2 := let ⟨S, a, b, c, d, e⟩ := h; ⟨S, a, b, c, s.trans d, e⟩
theorem joinB_l (ok : USok U us) {a b c : Option AS} (h : joinB us B a b = some c) (hc : ρ.length = B.cs.length) (hn : ν.length = B.n) {env' : Envp} {st2 : Sto} (i : InO U ρ ν st a env' st2) : InO U ρ ν st c env' st2 := by
  obtain ⟨T, ρ2, ν2, e, s, I⟩ := i
  obtain ⟨T', ρ3, ν3, e3, s3, I3⟩ := joinB_ok ok h hc hn (.inl e) I s
  exact ⟨T', ρ3, ν3, e3, s3, I3⟩
theorem joinB_r (ok : USok U us) {a b c : Option AS} (h : joinB us B a b = some c) (hc : ρ.length = B.cs.length) (hn : ν.length = B.n) {env' : Envp} {st2 : Sto} (i : InO U ρ ν st b env' st2) : InO U ρ ν st c env' st2 := by
  obtain ⟨T, ρ2, ν2, e, s, I⟩ := i
  obtain ⟨T', ρ3, ν3, e3, s3, I3⟩ := joinB_ok ok h hc hn (.inr e) I s
  exact ⟨T', ρ3, ν3, e3, s3, I3⟩
theorem joinQ_l (ok : USok U us) {a b c : Option Rt} (h : joinQ us B a b = some c) (hc : ρ.length = B.cs.length) (hn : ν.length = B.n) {v : PV} {st2 : Sto} (i : RtO U ρ ν st a v st2) : RtO U ρ ν st c v st2 := by
  obtain ⟨r, ρ2, ν2, rfl, s, I, g⟩ := i
  cases b with
  | none => cases h; exact ⟨r, ρ2, ν2, rfl, s, I, g⟩
  | some b =>
    simp only [joinQ] at h
    split at h
    · rename_i J hJ
      cases h
      obtain ⟨j1, j2, j3, j4⟩ := Rt.join_ok hJ
      obtain ⟨ρ3, ν3, s3, I3, g3⟩ := Rt.to ok j3 s I g (by rw [hc]; exact j1) (by rw [hn]; exact j2)
      exact ⟨J, ρ3, ν3, rfl, s3, I3, g3⟩
    · cases h
theorem joinQ_r (ok : USok U us) {a b c : Option Rt} (h : joinQ us B a b = some c) (hc : ρ.length = B.cs.length) (hn : ν.length = B.n) {v : PV} {st2 : Sto} (i : RtO U ρ ν st b v st2) : RtO U ρ ν st c v st2 := by
  obtain ⟨r, ρ2, ν2, rfl, s, I, g⟩ := i
  cases a with
  | none => cases h; exact ⟨r, ρ2, ν2, rfl, s, I, g⟩
  | some a =>
    simp only [joinQ] at h
    split at h
    · rename_i J hJ
      cases h
      obtain ⟨j1, j2, j3, j4⟩ := Rt.join_ok hJ
      obtain ⟨ρ3, ν3, s3, I3, g3⟩ := Rt.to ok j4 s I g (by rw [hc]; exact j1) (by rw [hn]; exact j2)
      exact ⟨J, ρ3, ν3, rfl, s3, I3, g3⟩
    · cases h
theorem merge_ok (ok : USok U us) {o p q : Out} {D : EndsP} (h : Out.merge us B o p = some q) (hc : ρ.length = B.cs.length) (hn : ν.length = B.n) (P : PostS U q ρ ν st D) : PostS U o ρ ν st D ∧ PostS U p ρ ν st D := by
  unfold Out.merge at h
  split at h
  · rename_i a b c d e1 e2 e3 e4
    cases h
    exact ⟨⟨fun _ _ i => P.nx _ _ (joinB_l ok e1 hc hn i), fun _ _ i => P.rt _ _ (joinQ_l ok e2 hc hn i), fun _ _ i => P.bk _ _ (joinB_l ok e3 hc hn i), fun _ _ i => P.ct _ _ (joinB_l ok e4 hc hn i)⟩,
      ⟨fun _ _ i => P.nx _ _ (joinB_r ok e1 hc hn i), fun _ _ i => P.rt _ _ (joinQ_r ok e2 hc hn i), fun _ _ i => P.bk _ _ (joinB_r ok e3 hc hn i), fun _ _ i => P.ct _ _ (joinB_r ok e4 hc hn i)⟩⟩
  · cases h
theorem PostS.step {o : Out} {D : EndsP} (P : PostS U o ρ ν st D) (s : Step ρ ν st ρ' ν' st') : PostS U o ρ' ν' st' D :=
  ⟨fun _ _ i => P.nx _ _ (i.trans s), fun _ _ i => P.rt _ _ (i.trans s), fun _ _ i => P.bk _ _ (i.trans s), fun _ _ i => P.ct _ _ (i.trans s)⟩
/-- what a turn of a loop does -/
def TurnOk (U : UT) (g : WG) (tb : WS) (ty : Ty) (turn : AS → Option Out) : Prop := ∀ S o, turn S = some o → ∀ ρ ν env st x D, In U S ρ ν env st → ty.has U ρ ν x → PostS U o ρ ν st D → g x env st fun env2 st2 => tb D env2 st2
theorem le_InO (ok : USok U us) {S T : AS} (h : S.le us T = true) (hc : ρ.length ≤ T.cs.length) (hn : ν.length ≤ T.n) {env' : Envp} {st2 : Sto} (i : InO U ρ ν st (some S) env' st2) : InO U ρ ν st (some T) env' st2 := by
  obtain ⟨S', ρ2, ν2, e, s, I⟩ := i
  cases e
  obtain ⟨ρ3, ν3, s3, I3⟩ := I.le ok h s hc hn
  exact ⟨T, ρ3, ν3, rfl, s3, I3⟩
theorem loopC_ok (ok : USok U us) {gd : Sto → Prop} (hgd : ∀ s, gd s) {g : WG} {tb : WS} {ty : Ty} {turn : AS → Option Out} (ht : TurnOk U g tb ty turn) (hc : ρ.length = B.cs.length) (hn : ν.length = B.n) {exact : Bool} :
    ∀ (k : Nat) (S : AS) (rt : Option Rt) (bk : Option AS) (F : AS) (rtF : Option Rt) (bkF : Option AS), loopC us B turn exact k S rt bk = some (F, rtF, bkF) → B.cs.length ≤ S.cs.length → B.n ≤ S.n →
      (∀ env' st', InO U ρ ν st (some S) env' st' → InO U ρ ν st (some F) env' st') ∧ (∀ v st', RtO U ρ ν st rt v st' → RtO U ρ ν st rtF v st') ∧ (∀ env' st', InO U ρ ν st bk env' st' → InO U ρ ν st bkF env' st') ∧
      ∀ (items : List PV) (env : Envp) (st1 : Sto) (D : EndsP), (exact = true → items.length ≤ k) → (∀ x ∈ items, ty.has U ρ ν x) → InO U ρ ν st (some S) env st1 →
        (∀ env' st', InO U ρ ν st (some F) env' st' → D.nx env' st') → (∀ v st', RtO U ρ ν st rtF v st' → D.rt v st') → (∀ env' st', InO U ρ ν st bkF env' st' → D.nx env' st') → forGo gd g tb D items env st1
  | 0, S, rt, bk, F, rtF, bkF, h, h1, h2 => by
    simp only [loopC] at h
    split at h
    · rename_i he
      cases h
      refine ⟨fun _ _ i => i, fun _ _ i => i, fun _ _ i => i, fun items env st1 D hl _ i dn _ _ => ?_⟩
      have := hl he
      cases items with
      | nil => exact ⟨hgd _, dn _ _ i⟩
      | cons _ _ => simp only [List.length_cons] at this; omega
    · cases h
  | k + 1, S, rt, bk, F, rtF, bkF, h, h1, h2 => by
    simp only [loopC] at h
    split at h
    · cases h
    · rename_i o ho
      split at h
      · rename_i rt' bk' e1 e2 e3
        cases h
        refine ⟨fun _ _ i => i, fun _ _ i => joinQ_l ok e2 hc hn i, fun _ _ i => joinB_l ok e3 hc hn i, fun items env st1 D _ hx i dn dr db => ?_⟩
        cases items with
        | nil => exact ⟨hgd _, dn _ _ i⟩
        | cons x xs =>
          refine ⟨hgd _, ?_⟩
          obtain ⟨S', ρ2, ν2, e, s, I⟩ := i
          cases e
          refine ht S o ho ρ2 ν2 env st1 x _ I ((hx x List.mem_cons_self).ext s.r s.n) ⟨fun env' st' i => ?_, fun v st' i => dr _ _ (joinQ_r ok e2 hc hn (i.trans s)), fun env' st' i => db _ _ (joinB_r ok e3 hc hn (i.trans s)), fun env' st' i => ?_⟩
          · obtain ⟨_, _, _, z, _⟩ := joinB_l ok e1 hc hn (i.trans s); cases z
          · obtain ⟨_, _, _, z, _⟩ := joinB_r ok e1 hc hn (i.trans s); cases z
      · rename_i S1 rt' bk' e1 e2 e3
        split at h
        · rename_i hle
          cases h
          refine ⟨fun _ _ i => i, fun _ _ i => joinQ_l ok e2 hc hn i, fun _ _ i => joinB_l ok e3 hc hn i, fun items env st1 D hl0 hx i dn dr db => ?_⟩
          have back : ∀ env' st', InO U ρ ν st (some S1) env' st' → InO U ρ ν st (some S) env' st' := fun _ _ i => le_InO ok hle (by omega) (by omega) i
          clear h1 h2 hl0
          induction items generalizing env st1 with
          | nil => exact ⟨hgd _, dn _ _ i⟩
          | cons x xs ih =>
            refine ⟨hgd _, ?_⟩
            obtain ⟨S', ρ2, ν2, e, s, I⟩ := i
            cases e
            refine ht S o ho ρ2 ν2 env st1 x _ I ((hx x List.mem_cons_self).ext s.r s.n) ⟨fun env' st' i => ?_, fun v st' i => dr _ _ (joinQ_r ok e2 hc hn (i.trans s)), fun env' st' i => db _ _ (joinB_r ok e3 hc hn (i.trans s)), fun env' st' i => ?_⟩
            · exact ih env' st' (fun y m => hx y (List.mem_cons_of_mem _ m)) (back _ _ (joinB_l ok e1 hc hn (i.trans s)))
            · exact ih env' st' (fun y m => hx y (List.mem_cons_of_mem _ m)) (back _ _ (joinB_r ok e1 hc hn (i.trans s)))
        · split at h
          · rename_i S2 hJ
            obtain ⟨j1, j2, j3, j4⟩ := AS.join_ok hJ
            obtain ⟨r1, r2, r3, r4⟩ := loopC_ok ok hgd ht hc hn k S2 rt' bk' F rtF bkF h j1 j2
            have up1 : ∀ env' st', InO U ρ ν st (some S) env' st' → InO U ρ ν st (some F) env' st' := fun _ _ i => r1 _ _ (le_InO ok j3 (by omega) (by omega) i)
            have up2 : ∀ env' st', InO U ρ ν st (some S1) env' st' → InO U ρ ν st (some S2) env' st' := fun _ _ i => le_InO ok j4 (by omega) (by omega) i
            refine ⟨up1, fun _ _ i => r2 _ _ (joinQ_l ok e2 hc hn i), fun _ _ i => r3 _ _ (joinB_l ok e3 hc hn i), fun items env st1 D hl hx i dn dr db => ?_⟩
            cases items with
            | nil => exact ⟨hgd _, dn _ _ (up1 _ _ i)⟩
            | cons x xs =>
              refine ⟨hgd _, ?_⟩
              obtain ⟨S', ρ2, ν2, e, s, I⟩ := i
              cases e
              have hl' : exact = true → xs.length ≤ k := fun z => by have := hl z; simp only [List.length_cons] at this; omega
              refine ht S o ho ρ2 ν2 env st1 x _ I ((hx x List.mem_cons_self).ext s.r s.n) ⟨fun env' st' i => ?_, fun v st' i => dr _ _ (r2 _ _ (joinQ_r ok e2 hc hn (i.trans s))), fun env' st' i => db _ _ (r3 _ _ (joinB_r ok e3 hc hn (i.trans s))), fun env' st' i => ?_⟩
              · exact r4 xs env' st' D hl' (fun y m => hx y (List.mem_cons_of_mem _ m)) (up2 _ _ (joinB_l ok e1 hc hn (i.trans s))) dn dr db
              · exact r4 xs env' st' D hl' (fun y m => hx y (List.mem_cons_of_mem _ m)) (up2 _ _ (joinB_r ok e1 hc hn (i.trans s))) dn dr db
          · cases h
      · cases h
theorem loopX_ok (ok : USok U us) {gd : Sto → Prop} (hgd : ∀ s, gd s) {g : WG} {tb : WS} {turn : Ty → AS → Option Out} (ht : ∀ ty, TurnOk U g tb ty (turn ty)) (hc : ρ.length = B.cs.length) (hn : ν.length = B.n) :
    ∀ (ts : List Ty) (S : AS) (rt : Option Rt) (bk : Option AS) (F : Option AS) (rtF : Option Rt) (bkF : Option AS), loopX us B turn ts S rt bk = some (F, rtF, bkF) →
      (∀ v st', RtO U ρ ν st rt v st' → RtO U ρ ν st rtF v st') ∧ (∀ env' st', InO U ρ ν st bk env' st' → InO U ρ ν st bkF env' st') ∧
      ∀ (items : List PV) (env : Envp) (st1 : Sto) (D : EndsP), Ty.hasL U ρ ν ts items → InO U ρ ν st (some S) env st1 →
        (∀ env' st', InO U ρ ν st F env' st' → D.nx env' st') → (∀ v st', RtO U ρ ν st rtF v st' → D.rt v st') → (∀ env' st', InO U ρ ν st bkF env' st' → D.nx env' st') → forGo gd g tb D items env st1
  | [], S, rt, bk, F, rtF, bkF, h => by
    simp only [loopX, Option.some.injEq, Prod.mk.injEq] at h
    obtain ⟨rfl, rfl, rfl⟩ := h
    refine ⟨fun _ _ i => i, fun _ _ i => i, fun items env st1 D hx i dn _ _ => ?_⟩
    simp only [Ty.hasL] at hx
    subst hx
    exact ⟨hgd _, dn _ _ i⟩
  | t :: ts, S, rt, bk, F, rtF, bkF, h => by
    simp only [loopX] at h
    split at h
    · cases h
    · rename_i o ho
      split at h
      · rename_i rt' bk' e1 e2 e3
        cases h
        refine ⟨fun _ _ i => joinQ_l ok e2 hc hn i, fun _ _ i => joinB_l ok e3 hc hn i, fun items env st1 D hx i dn dr db => ?_⟩
        simp only [Ty.hasL] at hx
        obtain ⟨x, xs, rfl, gx, hx⟩ := hx
        refine ⟨hgd _, ?_⟩
        obtain ⟨S', ρ2, ν2, e, s, I⟩ := i
        cases e
        refine ht t S o ho ρ2 ν2 env st1 x _ I (gx.ext s.r s.n) ⟨fun env' st' i => ?_, fun v st' i => dr _ _ (joinQ_r ok e2 hc hn (i.trans s)), fun env' st' i => db _ _ (joinB_r ok e3 hc hn (i.trans s)), fun env' st' i => ?_⟩
        · obtain ⟨_, _, _, z, _⟩ := joinB_l ok e1 hc hn (i.trans s); cases z
        · obtain ⟨_, _, _, z, _⟩ := joinB_r ok e1 hc hn (i.trans s); cases z
      · rename_i S1 rt' bk' e1 e2 e3
        obtain ⟨r2, r3, r4⟩ := loopX_ok ok hgd ht hc hn ts S1 rt' bk' F rtF bkF h
        refine ⟨fun _ _ i => r2 _ _ (joinQ_l ok e2 hc hn i), fun _ _ i => r3 _ _ (joinB_l ok e3 hc hn i), fun items env st1 D hx i dn dr db => ?_⟩
        simp only [Ty.hasL] at hx
        obtain ⟨x, xs, rfl, gx, hx⟩ := hx
        refine ⟨hgd _, ?_⟩
        obtain ⟨S', ρ2, ν2, e, s, I⟩ := i
        cases e
        refine ht t S o ho ρ2 ν2 env st1 x _ I (gx.ext s.r s.n) ⟨fun env' st' i => ?_, fun v st' i => dr _ _ (r2 _ _ (joinQ_r ok e2 hc hn (i.trans s))), fun env' st' i => db _ _ (r3 _ _ (joinB_r ok e3 hc hn (i.trans s))), fun env' st' i => ?_⟩
        · exact r4 xs env' st' D hx (joinB_l ok e1 hc hn (i.trans s)) dn dr db
        · exact r4 xs env' st' D hx (joinB_r ok e1 hc hn (i.trans s)) dn dr db
      · cases h
theorem forA_ok (ok : USok U us) {gd : Sto → Prop} (hgd : ∀ s, gd s) {g : WG} {tb : WS} {turn : Ty → AS → Option Out} (ht : ∀ ty, TurnOk U g tb ty (turn ty)) {s : SV} {o : Out} (h : forA us B s turn = some o) {items : List PV} {D : EndsP}
    (I : In U B ρ ν env st) (hi : s.has U ρ ν items) (P : PostS U o ρ ν st D) : forGo gd g tb D items env st := by
  have hc := I.2.rl
  have hn := I.2.nl
  have start : InO U ρ ν st (some B) env st := ⟨B, ρ, ν, rfl, .refl, I⟩
  have fin : ∀ F rt bk, loopEnd us B (some (F, rt, bk)) = some o → (∀ env' st', InO U ρ ν st F env' st' → D.nx env' st') ∧ (∀ v st', RtO U ρ ν st rt v st' → D.rt v st') ∧ (∀ env' st', InO U ρ ν st bk env' st' → D.nx env' st') := fun F rt bk h => by
    simp only [loopEnd] at h
    split at h
    · rename_i nx e
      cases h
      exact ⟨fun _ _ i => P.nx _ _ (joinB_l ok e hc hn i), P.rt, fun _ _ i => P.nx _ _ (joinB_r ok e hc hn i)⟩
    · cases h
  have doC : ∀ ty exact k, loopEnd us B (someF (loopC us B (turn ty) exact k B none none)) = some o → (exact = true → items.length ≤ k) → (∀ x ∈ items, ty.has U ρ ν x) → forGo gd g tb D items env st := fun ty exact k h hl hx => by
    cases e : loopC us B (turn ty) exact k B none none with
    | none => rw [e] at h; cases h
    | some r =>
      obtain ⟨F, rt, bk⟩ := r
      rw [e] at h
      obtain ⟨d1, d2, d3⟩ := fin _ _ _ h
      exact (loopC_ok (st := st) ok hgd (ht ty) hc hn k B none none F rt bk e (Nat.le_refl _) (Nat.le_refl _)).2.2.2 items env st D hl hx start d1 d2 d3
  have doX : ∀ ts, loopEnd us B (loopX us B turn ts B none none) = some o → Ty.hasL U ρ ν ts items → forGo gd g tb D items env st := fun ts h hx => by
    cases e : loopX us B turn ts B none none with
    | none => rw [e] at h; cases h
    | some r =>
      obtain ⟨F, rt, bk⟩ := r
      rw [e] at h
      obtain ⟨d1, d2, d3⟩ := fin _ _ _ h
      exact (loopX_ok (st := st) ok hgd ht hc hn ts B none none F rt bk e).2.2 items env st D hx start d1 d2 d3
  cases s with
  | fix ts =>
    simp only [forA] at h
    split at h
    · rename_i c hcu
      split at h
      · refine doC c true ts.length h (fun _ => by rw [hasL_len hi]; exact Nat.le_refl _) fun x m => ?_
        obtain ⟨t, mt, gt⟩ := hasL_mem hi m
        exact up_ok ok I.2 hcu mt gt
      · exact doX ts h hi
    · exact doX ts h hi
  | rep t lo hi' =>
    simp only [forA] at h
    refine doC t _ _ h (fun z => ?_) hi.2.2
    simp only [decide_eq_true_eq] at z
    have := hi.2.1
    omega
end
def TagOk (U : UT) (φ : Nat → Spc) (G : AS → Option Out) (s : QS) : Prop := ∀ S o, G S = some o → ∀ ρ ν env st D, In U S ρ ν env st → PostS U o ρ ν st D → s.den φ D env st
section
variable {U : UT} {us : US} {φ : Nat → Spc} {call : Nat → List Ty → List Ty → Nat → Option Rt}
theorem evS_ok (ok : USok U us) (hcl : OkC U φ call) {tg : Nat → AS → Option Out} : ∀ (s : QS) (S : AS) (o : Out), (∀ p ∈ s.tags, TagOk U φ (tg p.1) p.2) → evS us call tg s S = some o → ∀ ρ ν env st D, In U S ρ ν env st → PostS U o ρ ν st D → s.den φ D env st
  | .next, S, o, ht, h, ρ, ν, env, st, D, I, P => by
    simp only [evS, Option.some.injEq] at h
    subst h
    exact P.nx _ _ ⟨S, ρ, ν, rfl, .refl, I⟩
  | .seq a b, S, o, ht, h, ρ, ν, env, st, D, I, P => by
    simp only [evS] at h
    split at h
    · rename_i o1 e1
      split at h
      · rename_i hnx
        cases h
        refine evS_ok ok hcl a S _ (fun p m => ht p (List.mem_append_left _ m)) e1 ρ ν env st _ I ⟨fun env' st' i => ?_, P.rt, P.bk, P.ct⟩
        obtain ⟨_, _, _, z, _⟩ := i
        rw [hnx] at z; cases z
      · rename_i S1 hnx
        split at h
        · rename_i p e2
          obtain ⟨P1, P2⟩ := merge_ok (st := st) (D := D) ok h I.2.rl I.2.nl P
          refine evS_ok ok hcl a S _ (fun p m => ht p (List.mem_append_left _ m)) e1 ρ ν env st _ I ⟨fun env' st' ⟨T, ρ1, ν1, e, s1, I1⟩ => ?_, P1.rt, P1.bk, P1.ct⟩
          rw [hnx] at e
          cases e
          exact evS_ok ok hcl b _ _ (fun p m => ht p (List.mem_append_right _ m)) e2 ρ1 ν1 env' st' D I1 (P2.step s1)
        · cases h
    · cases h
  | .ite t a b, S, o, ht, h, ρ, ν, env, st, D, I, P => by
    simp only [evS] at h
    split at h
    · rename_i St Sf e1
      split at h
      · rename_i o1 o2 e2 e3
        obtain ⟨P1, P2⟩ := merge_ok (st := st) (D := D) ok h I.2.rl I.2.nl P
        refine evT_ok ok hcl t S _ e1 ρ ν env st _ I fun k st1 ⟨T, ρ1, ν1, hT, s1, I1⟩ => ?_
        cases k with
        | true =>
          simp only [BR.at, if_true, Option.some.injEq] at hT
          subst hT
          rw [if_pos rfl]
          exact evS_ok ok hcl a _ _ (fun p m => ht p (List.mem_append_left _ m)) e2 ρ1 ν1 env st1 D I1 (P1.step s1)
        | false =>
          simp only [BR.at, Bool.false_eq_true, if_false, Option.some.injEq] at hT
          subst hT
          rw [if_neg Bool.false_ne_true]
          exact evS_ok ok hcl b _ _ (fun p m => ht p (List.mem_append_right _ m)) e3 ρ1 ν1 env st1 D I1 (P2.step s1)
      · cases h
    · rename_i St e1
      refine evT_ok ok hcl t S _ e1 ρ ν env st _ I fun k st1 ⟨T, ρ1, ν1, hT, s1, I1⟩ => ?_
      cases k with
      | true =>
        simp only [BR.at, if_true, Option.some.injEq] at hT
        subst hT
        rw [if_pos rfl]
        exact evS_ok ok hcl a _ _ (fun p m => ht p (List.mem_append_left _ m)) h ρ1 ν1 env st1 D I1 (P.step s1)
      | false => simp only [BR.at, Bool.false_eq_true, if_false] at hT; cases hT
    · rename_i Sf e1
      refine evT_ok ok hcl t S _ e1 ρ ν env st _ I fun k st1 ⟨T, ρ1, ν1, hT, s1, I1⟩ => ?_
      cases k with
      | true => simp only [BR.at, if_true] at hT; cases hT
      | false =>
        simp only [BR.at, Bool.false_eq_true, if_false, Option.some.injEq] at hT
        subst hT
        rw [if_neg Bool.false_ne_true]
        exact evS_ok ok hcl b _ _ (fun p m => ht p (List.mem_append_right _ m)) h ρ1 ν1 env st1 D I1 (P.step s1)
    · cases h
  | .ret e, S, o, ht, h, ρ, ν, env, st, D, I, P => by
    simp only [evS] at h
    split at h
    · rename_i r _ e1
      cases h
      exact evE_ok ok hcl e S _ e1 ρ ν env st _ I fun ρ1 ν1 st1 v s1 I1 g1 _ => P.rt _ _ ⟨_, ρ1, ν1, rfl, s1, I1, g1⟩
    · cases h
  | .retN, S, o, ht, h, ρ, ν, env, st, D, I, P => by
    simp only [evS, Option.some.injEq] at h
    subst h
    exact P.rt _ _ ⟨_, ρ, ν, rfl, .refl, I.2, by simp only [Ty.has]⟩
  | .drop e, S, o, ht, h, ρ, ν, env, st, D, I, P => by
    simp only [evS] at h
    split at h
    · rename_i t c n _ e1
      cases h
      exact evE_ok ok hcl e S _ e1 ρ ν env st _ I fun ρ1 ν1 st1 v s1 I1 g1 _ => P.nx _ _ ⟨_, ρ1, ν1, rfl, s1, I.1.step s1, I1⟩
    · cases h
  | .brk, S, o, ht, h, ρ, ν, env, st, D, I, P => by
    simp only [evS, Option.some.injEq] at h
    subst h
    exact P.bk _ _ ⟨S, ρ, ν, rfl, .refl, I⟩
  | .cnt, S, o, ht, h, ρ, ν, env, st, D, I, P => by
    simp only [evS, Option.some.injEq] at h
    subst h
    exact P.ct _ _ ⟨S, ρ, ν, rfl, .refl, I⟩
  | .asg e g, S, o, ht, h, ρ, ν, env, st, D, I, P => by
    simp only [evS] at h
    split at h
    · rename_i t c n _ e1
      split at h
      · rename_i S1 e2
        cases h
        refine evE_ok ok hcl e S _ e1 ρ ν env st _ I fun ρ1 ν1 st1 v s1 I1 g1 _ => ?_
        exact evG_ok ok hcl g t _ S1 e2 ρ1 ν1 env st1 v _ ⟨I.1.step s1, I1⟩ g1 fun ρ2 ν2 st2 env2 s2 I2 => P.nx _ _ ⟨_, ρ2, ν2, rfl, s1.trans s2, I2⟩
      · cases h
    · cases h
  | .par i j as, S, o, ht, h, ρ, ν, env, st, D, I, P => by
    simp only [evS] at h
    split at h
    · rename_i t u c n e1
      cases h
      refine evA_ok ok hcl as S _ e1 ρ ν env st _ I fun ρ1 ν1 st1 vs s1 I1 g1 => ?_
      obtain ⟨x, y, rfl, gx, gy⟩ := hasL_two g1
      refine ⟨x, y, rfl, ?_⟩
      refine bindT_ok (Q := fun env' st' => D.nx (env'.set j (some y)) st') (S := ⟨S.ev, c, n⟩) ⟨I.1.step s1, I1⟩ gx fun ρ2 ν2 st2 env2 s2 I2 => ?_
      exact bindT_ok (Q := D.nx) I2 (gy.ext s2.r s2.n) fun ρ3 ν3 st3 env3 s3 I3 => P.nx _ _ ⟨_, ρ3, ν3, rfl, (s1.trans s2).trans s3, I3⟩
    · cases h
  | .for it g b, S, o, ht, h, ρ, ν, env, st, D, I, P => by
    simp only [evS] at h
    split at h
    · rename_i s c n e1
      refine evI_ok ok hcl it S _ e1 ρ ν env st _ I fun ρ1 ν1 st1 p s1 I1 g1 hgd => ?_
      refine forA_ok ok hgd (fun ty => ?_) h ⟨I.1.step s1, I1⟩ g1 (P.step s1)
      intro S' o' ho ρ2 ν2 env2 st2 x D2 I2 gx P2
      dsimp only at ho
      split at ho
      · rename_i S1 e2
        exact evG_ok ok hcl g ty S' S1 e2 ρ2 ν2 env2 st2 x _ I2 gx fun ρ3 ν3 st3 env3 s3 I3 => evS_ok ok hcl b S1 o' ht ho ρ3 ν3 env3 st3 D2 I3 (P2.step s3)
      · cases ho
    · cases h
  | .while t b, S, o, ht, h, ρ, ν, env, st, D, I, P => by simp only [evS] at h; cases h
  | .never, S, o, ht, h, ρ, ν, env, st, D, I, P => by simp only [evS] at h; cases h
  | .tag i b, S, o, ht, h, ρ, ν, env, st, D, I, P => ht (i, b) (by simp [QS.tags]) S o h ρ ν env st D I P
theorem idT_ok {i : Nat} {S : AS} {ρ ν : List Nat} {env : Envp} {st : Sto} (I : In U S ρ ν env st) : ∃ ν', Step ρ ν st ρ ν' st ∧ In U (idT i S) ρ ν' env st := by
  have fresh : ∀ (t' : Ty) (len : Nat) (v : PV), env[i]? = some (some v) → t'.has U ρ (ν ++ [len]) v → ∃ ν', Step ρ ν st ρ ν' st ∧ In U ⟨S.ev.set i (some t'), S.cs, S.n + 1⟩ ρ ν' env st := fun t' len v e g' => by
    have hp : ν <+: ν ++ [len] := List.prefix_append _ _
    refine ⟨ν ++ [len], ⟨List.prefix_rfl, hp, .refl, fun _ h => .inl h⟩, (I.1.ext List.prefix_rfl hp).know e g', I.2.rl, I.2.nd, by simp [I.2.nl], fun k t a e1 e2 => ?_⟩
    obtain ⟨xs, q1, q2⟩ := I.2.at_ k t a e1 e2
    exact ⟨xs, q1, q2.ext List.prefix_rfl hp⟩
  unfold idT
  split
  · rename_i k t lo hi e
    split
    · exact ⟨ν, .refl, I⟩
    · obtain ⟨v, e1, g⟩ := I.1.at_ i _ e
      simp only [Ty.has] at g
      obtain ⟨xs, e2, a, b, c, d⟩ := g
      refine fresh _ xs.length v e1 ?_
      simp only [Ty.has]
      exact ⟨xs, e2, a, b, by simp only [idOk]; rw [← I.2.nl]; simp, fun x m => (d x m).ext List.prefix_rfl (List.prefix_append _ _)⟩
  · rename_i lo hi e
    split
    · exact ⟨ν, .refl, I⟩
    · obtain ⟨v, e1, g⟩ := I.1.at_ i _ e
      simp only [Ty.has] at g
      obtain ⟨s, e2, o, a, b, c⟩ := g
      refine fresh _ s.length v e1 ?_
      simp only [Ty.has]
      exact ⟨s, e2, o, a, b, by simp only [idOk]; rw [← I.2.nl]; simp⟩
  · exact ⟨ν, .refl, I⟩
theorem idAll_ok {S : AS} {ρ ν : List Nat} {env : Envp} {st : Sto} (I : In U S ρ ν env st) : ∀ k, ∃ ν', Step ρ ν st ρ ν' st ∧ In U (idAll k S) ρ ν' env st
  | 0 => ⟨ν, .refl, I⟩
  | k + 1 => by
    obtain ⟨ν1, s1, I1⟩ := idAll_ok I k
    obtain ⟨ν2, s2, I2⟩ := idT_ok (i := k) I1
    exact ⟨ν2, s1.trans s2, I2⟩
theorem start_in {ts : List Ty} {xs : List PV} {slots : Nat} {ρ ν : List Nat} (g : Ty.hasL U ρ ν ts xs) : EnvIn U (ts.map some ++ List.replicate (slots - ts.length) none) ρ ν (startN slots xs) := by
  have hl := hasL_len g
  refine ⟨by unfold startN; simp [hl], fun i t e => ?_⟩
  by_cases hi : i < ts.length
  · rw [List.getElem?_append_left (by simpa using hi), List.getElem?_map, List.getElem?_eq_getElem hi] at e
    simp only [Option.map_some, Option.some.injEq] at e
    obtain ⟨v, q1, q2⟩ := hasL_get g (List.getElem?_eq_getElem hi)
    refine ⟨v, ?_, by rw [← e]; exact q2⟩
    unfold startN
    rw [List.getElem?_append_left (by simp; omega), List.getElem?_map, q1]; rfl
  · rw [List.getElem?_append_right (by simpa using hi), List.getElem?_replicate] at e
    split at e <;> cases e
theorem evF_ok (ok : USok U us) {P : List QF} {sm : SM} (hsm : ∀ f lv F, sm f = some (lv, F) → ∀ k, lv ≤ k → ∀ ts cs n r, F ts cs n = some r → ∀ ρ ν st xs Q, StoIn U cs n ρ ν st → Ty.hasL U ρ ν ts xs → PostE U r ρ ν st Q → Sem P k f xs st Q)
    {tm : TM} (htm : ∀ F ∈ P, ∀ p ∈ F.body.tags, ∀ lv G, tm p.1 = some (lv, G) → ∀ k, lv ≤ k → TagOk U (Sem P k) G p.2) :
    ∀ k, OkC U (Sem P k) (evF us P sm tm k)
  | 0 => fun f ts cs n r h => by cases h
  | k + 1 => fun f ts cs n r h ρ ν st xs Q I g P' => by
    simp only [evF] at h
    split at h
    · rename_i lv F e
      split at h
      · exact hsm f lv F e (k + 1) (by assumption) ts cs n r h ρ ν st xs Q I g P'
      · cases h
    · split at h
      · rename_i F e
        split at h
        · rename_i o e2
          simp only [Sem, e]
          obtain ⟨ν1, s1, I1⟩ := idAll_ok (U := U) (st := st) (S := ⟨ts.map some ++ List.replicate (F.slots - ts.length) none, cs, n⟩) ⟨start_in (slots := F.slots) g, I⟩ ts.length
          refine evS_ok ok (evF_ok ok hsm htm k) F.body _ o (fun p m S o hS => ?_) e2 ρ ν1 _ st _ I1 ?_
          · unfold tgAt at hS
            split at hS
            · rename_i lv G eg
              split at hS
              · exact htm F (List.mem_of_getElem? e) p m lv G eg k (by assumption) S o hS
              · cases hS
            · cases hS
          unfold endA at h
          split at h
          · rename_i hb hct
            split at h
            · rename_i r' hj
              subst h
              refine ⟨fun env' st' i => ?_, fun v st' i => ?_, fun env' st' i => ?_, fun env' st' i => ?_⟩
              · obtain ⟨T, ρ2, ν2, e3, s2, I2⟩ := i.trans s1
                have : RtO U ρ ν st (match o.nx with
                  | some S => some (.non, S.cs, S.n)
                  | none => none) PV.non st' := by rw [e3]; exact ⟨_, ρ2, ν2, rfl, s2, I2.2, by simp only [Ty.has]⟩
                obtain ⟨r2, ρ3, ν3, e4, s3, I3, g3⟩ := joinQ_r (B := ⟨[], cs, n⟩) ok hj I.rl I.nl this
                cases e4
                exact P' ρ3 ν3 st' _ s3 I3 g3
              · obtain ⟨r2, ρ3, ν3, e4, s3, I3, g3⟩ := joinQ_l (B := ⟨[], cs, n⟩) ok hj I.rl I.nl (i.trans s1)
                cases e4
                exact P' ρ3 ν3 st' _ s3 I3 g3
              · obtain ⟨_, _, _, z, _⟩ := i; rw [hb] at z; cases z
              · obtain ⟨_, _, _, z, _⟩ := i; rw [hct] at z; cases z
            · cases h
          · cases h
        · cases h
      · cases h
end
end Pv

/-! PvW: words that are spelt. -/
namespace Pv
open PySem PySem.Spec L2
def small : Str := "abcdefghijklmnopqrstuvwxyz"
def great : Str := "ABCDEFGHIJKLMNOPQRSTUVWXYZ"
theorem small_len : small.length = 26 := by decide +kernel
theorem small_ok : PyData.strOk small = true := by decide +kernel
theorem great_len : great.length = 26 := by decide +kernel
theorem great_ok : PyData.strOk great = true := by decide +kernel
/-- one to six signs, the first one of some, small ones behind -/
def Spelt (L s : Str) : Prop := ∃ c r, s.cps.toList = c :: r ∧ c ∈ L.cps.toList ∧ (∀ x ∈ r, x ∈ small.cps.toList) ∧ r.length ≤ 5
section
variable {L s : Str}
theorem len_list (s : Str) : s.cps.toList.length = s.length := by simp [Str.length]
theorem Spelt.len (h : Spelt L s) : 1 ≤ s.length ∧ s.length ≤ 6 := by
  obtain ⟨c, r, e, _, _, hr⟩ := h
  rw [← len_list, e, List.length_cons]; omega
theorem ok_mem {L : Str} (h : PyData.strOk L = true) {c : Nat} (m : c ∈ L.cps.toList) : c < 0x110000 := by
  have := Array.all_eq_true_iff_forall_mem.mp h c (Array.mem_toList_iff.mp m)
  simpa using this
theorem Spelt.ok (h : Spelt L s) (hL : PyData.strOk L = true) : PyData.strOk s = true := by
  obtain ⟨c, r, e, h1, h2, hr⟩ := h
  unfold PyData.strOk
  rw [Array.all_eq_true_iff_forall_mem]
  intro x m
  have m' : x ∈ s.cps.toList := Array.mem_toList_iff.mpr m
  rw [e] at m'
  rcases List.mem_cons.mp m' with rfl | m'
  · simpa using ok_mem hL h1
  · simpa using ok_mem small_ok (h2 x m')
theorem Spelt.good (h : Spelt L s) (hL : PyData.strOk L = true) : GoodS s := ⟨h.len.1, h.len.2, h.ok hL⟩
theorem cps_cut_hi (s : Str) (k : Nat) : (cutS s none (some (k : Int))).cps.toList = s.cps.toList.take k := by
  unfold cutS
  rw [HT.sIx_none, HT.sIx_nat, List.drop_zero, Nat.sub_zero]
  show (List.toArray _).toList = _
  rw [List.toList_toArray, ← len_list]
  by_cases h : k ≤ s.cps.toList.length
  · rw [Nat.min_eq_left h]
  · rw [Nat.min_eq_right (by omega), List.take_length, List.take_of_length_le (by omega)]
theorem cps_cut_lo (s : Str) (k : Nat) : (cutS s (some (k : Int)) none).cps.toList = s.cps.toList.drop k := by
  unfold cutS
  rw [HT.sIx_none, HT.sIx_nat]
  show (List.toArray _).toList = _
  rw [List.toList_toArray, ← len_list]
  by_cases h : k ≤ s.cps.toList.length
  · rw [Nat.min_eq_left h, List.take_of_length_le (by simp)]
  · rw [Nat.min_eq_right (by omega), List.drop_of_length_le (Nat.le_refl _), List.drop_of_length_le (by omega)]; simp
theorem cps_app (a b : Str) : (a ++ b).cps.toList = a.cps.toList ++ b.cps.toList := by rw [str_app]; simp
theorem Spelt.take (h : Spelt L s) {k : Nat} (hk : 1 ≤ k) : Spelt L (cutS s none (some (k : Int))) := by
  obtain ⟨c, r, e, h1, h2, hr⟩ := h
  obtain ⟨j, rfl⟩ : ∃ j, k = j + 1 := ⟨k - 1, by omega⟩
  refine ⟨c, r.take j, by rw [cps_cut_hi, e, List.take_succ_cons], h1, fun x m => h2 x (List.mem_of_mem_take m), ?_⟩
  rw [List.length_take]; omega
theorem base_spelt (h : Spelt L s) : Spelt L (cutS (s ++ Str.ofString "abcdef") none (some 6)) ∧ (cutS (s ++ Str.ofString "abcdef") none (some 6)).length = 6 := by
  obtain ⟨c, r, e, h1, h2, hr⟩ := h
  have ha : (Str.ofString "abcdef").cps.toList.length = 6 := by decide +kernel
  have hm : ∀ x ∈ (Str.ofString "abcdef").cps.toList, x ∈ small.cps.toList := by decide +kernel
  have e6 : (cutS (s ++ Str.ofString "abcdef") none (some 6)).cps.toList = c :: (r ++ (Str.ofString "abcdef").cps.toList).take 5 := by
    have := cps_cut_hi (s ++ Str.ofString "abcdef") 6
    rw [show ((6 : Nat) : Int) = 6 from rfl] at this
    rw [this, cps_app, e, List.cons_append, List.take_succ_cons]
  refine ⟨⟨c, _, e6, h1, fun x m => ?_, by rw [List.length_take]; omega⟩, ?_⟩
  · rcases List.mem_append.mp (List.mem_of_mem_take m) with m | m
    · exact h2 x m
    · exact hm x m
  · rw [← len_list, e6, List.length_cons, List.length_take, List.length_append, ha]; omega
theorem Spelt.put (h : Spelt L s) {a : Nat} {c : Nat} (ha : a < s.length) (h0 : a = 0 → c ∈ L.cps.toList) (hp : 0 < a → c ∈ small.cps.toList) : Spelt L (cutS s none (some (a : Int)) ++ ⟨#[c]⟩ ++ cutS s (some ((a : Int) + 1)) none) := by
  obtain ⟨d, r, e, h1, h2, hr⟩ := h
  rw [← len_list, e, List.length_cons] at ha
  have e1 : (cutS s none (some (a : Int)) ++ ⟨#[c]⟩ ++ cutS s (some ((a : Int) + 1)) none).cps.toList = (d :: r).take a ++ [c] ++ (d :: r).drop (a + 1) := by
    rw [cps_app, cps_app, cps_cut_hi, e, show ((a : Int) + 1) = ((a + 1 : Nat) : Int) by omega, cps_cut_lo, e]
  cases a with
  | zero => exact ⟨c, r, by rw [e1]; simp, h0 rfl, h2, hr⟩
  | succ a =>
    refine ⟨d, r.take a ++ [c] ++ r.drop (a + 1), by rw [e1]; simp, h1, fun x m => ?_, ?_⟩
    · simp only [List.mem_append, List.mem_singleton] at m
      rcases m with (m | rfl) | m
      · exact h2 x (List.mem_of_mem_take m)
      · exact hp (by omega)
      · exact h2 x (List.mem_of_mem_drop m)
    · simp only [List.length_append, List.length_take, List.length_drop, List.length_singleton]; omega
end
theorem all2_signs {P : Nat → Prop} : ∀ {items ys : List PV}, All2 (fun _ y => ∃ c, y = .str ⟨#[c]⟩ ∧ P c) items ys → ∃ cs : List Nat, ys = cs.map (fun c => PV.str ⟨#[c]⟩) ∧ cs.length = items.length ∧ ∀ c ∈ cs, P c
  | _, _, .nil => ⟨[], rfl, rfl, by simp⟩
  | _, _, .cons ⟨s, e, p⟩ h => by
    obtain ⟨ss, e2, hl, hp⟩ := all2_signs h
    refine ⟨s :: ss, by rw [e, e2]; rfl, by simp [hl], fun t m => ?_⟩
    rcases List.mem_cons.mp m with q | q
    · rw [q]; exact p
    · exact hp t q
theorem sum_ones : ∀ cs : List Nat, (cs.map ((fun x : Str => x.length) ∘ fun c => (⟨#[c]⟩ : Str))).sum = cs.length
  | [] => rfl
  | c :: cs => by
    rw [List.map_cons, List.sum_cons, sum_ones cs]
    show 1 + cs.length = _
    simp; omega
theorem join_signs : ∀ cs : List Nat, Str.join (Str.ofString "") (cs.map fun c => (⟨#[c]⟩ : Str)) = ⟨cs.toArray⟩
  | [] => rfl
  | [c] => rfl
  | c :: d :: cs => by
    have ih := join_signs (d :: cs)
    have e : Str.join (Str.ofString "") ((c :: d :: cs).map fun c => (⟨#[c]⟩ : Str)) = ⟨#[c]⟩ ++ Str.ofString "" ++ Str.join (Str.ofString "") ((d :: cs).map fun c => (⟨#[c]⟩ : Str)) := rfl
    rw [e, ih]
    have e0 : (Str.ofString "").cps = #[] := rfl
    rw [str_app, str_app, e0]
    simp
def S_word : Spc := fun xs st Q => ∃ n L, xs = [.ref n, .str L] ∧ DeckOk st n ∧ L.length = 26 ∧ PyData.strOk L = true ∧ ∀ s st', Spelt L s → Gr [n] st st' → DeckOk st' n → Q (.str s) st'
def S_words : Spc := fun xs st Q => ∃ (n : Nat) (L : Str) (m : Int), xs = [.ref n, .str L, .int m] ∧ DeckOk st n ∧ L.length = 26 ∧ PyData.strOk L = true ∧ 1 ≤ m ∧ m ≤ 6 ∧ ∀ ss st', (ss.length : Int) = m → (∀ s ∈ ss, Spelt L s) → Gr [n] st st' → DeckOk st' n → Q (.lst (pStrs ss)) st'
end Pv

/-! PvU: terms that are spelt; pools; cuts of lists; filters. -/
namespace Pv
open PySem PySem.Spec L2
/-- a term, so deep, its names and unknowns spelt -/
def TOk : Nat → Trm → Prop
  | _, .u s => Spelt great s
  | 0, .f _ _ => False
  | d + 1, .f s as => Spelt small s ∧ as.length ≤ 3 ∧ ∀ a ∈ as, TOk d a
theorem TOk.u {d : Nat} {s : Str} : TOk d (.u s) ↔ Spelt great s := by cases d <;> exact Iff.rfl
theorem TOk.ok : ∀ {d : Nat} {t : Trm}, TOk d t → Trm.ok d t
  | d, .u s, h => Trm.ok_u.mpr ((TOk.u.mp h).good great_ok)
  | 0, .f s as, h => h.elim
  | d + 1, .f s as, h => ⟨h.1.good small_ok, h.2.1, fun a m => TOk.ok (h.2.2 a m)⟩
theorem TOk.up : ∀ {d e : Nat} {t : Trm}, TOk d t → d ≤ e → TOk e t
  | d, e, .u s, h, _ => TOk.u.mpr (TOk.u.mp h)
  | 0, _, .f _ _, h, _ => h.elim
  | d + 1, 0, .f s as, h, hl => by omega
  | d + 1, e + 1, .f s as, h, hl => ⟨h.1, h.2.1, fun a m => TOk.up (h.2.2 a m) (by omega)⟩
theorem TOk.arg {d : Nat} {t a : Trm} (h : TOk d t) (m : a ∈ t.args) : ∃ e, d = e + 1 ∧ TOk e a := by
  cases t with
  | u s => simp [Trm.args] at m
  | f s as =>
    cases d with
    | zero => exact h.elim
    | succ d => exact ⟨d, rfl, h.2.2 a m⟩
theorem cutL_hi {α : Type} (xs : List α) (k : Nat) : cutL xs none (some (k : Int)) = xs.take k := by
  unfold cutL
  rw [HT.sIx_none, HT.sIx_nat, List.drop_zero, Nat.sub_zero]
  by_cases h : k ≤ xs.length
  · rw [Nat.min_eq_left h]
  · rw [Nat.min_eq_right (by omega), List.take_length, List.take_of_length_le (by omega)]
theorem cutL_lo {α : Type} (xs : List α) (k : Nat) : cutL xs (some (k : Int)) none = xs.drop k := by
  unfold cutL
  rw [HT.sIx_none, HT.sIx_nat]
  by_cases h : k ≤ xs.length
  · rw [Nat.min_eq_left h, List.take_of_length_le (by simp)]
  · rw [Nat.min_eq_right (by omega), List.drop_of_length_le (Nat.le_refl _), List.drop_of_length_le (by omega)]; simp
def poolP (names : List Str) (cs : List Int) (unk : List Str) : PV := .dk [.inr (Str.ofString "signs"), .inr (Str.ofString "unknowns")] [.lst (zipP (pStrs names) (pInts cs)), .lst (pStrs unk)]
structure PoolOk (names : List Str) (cs : List Int) (unk : List Str) : Prop where
  nl : names.length = 5
  ng : ∀ s ∈ names, Spelt small s
  c0 : ∃ r, cs = 0 :: r
  cl : cs.length = 5
  cb : ∀ c ∈ cs, 0 ≤ c ∧ c ≤ 3
  ul : unk.length = 4
  ug : ∀ s ∈ unk, Spelt great s
def LeftOk (st : Sto) (l : Nat) : Prop := ∃ x : Int, st[l]? = some (.lst [.int x])
theorem LeftOk.gr {ds : List Nat} {st st' : Sto} {n : Nat} (h : LeftOk st n) (g : Gr ds st st') (hn : n ∉ ds) : LeftOk st' n := let ⟨a, e⟩ := h; ⟨a, g.2 _ _ hn e⟩
def S_term (d : Nat) : Spc := fun xs st Q => ∃ (n l : Nat) (names : List Str) (cs : List Int) (unk us : List Str) (deep : Int), xs = [.ref n, poolP names cs unk, .lst (pStrs us), .int deep, .ref l] ∧ n ≠ l ∧ DeckOk st n ∧ LeftOk st l ∧ PoolOk names cs unk ∧ (∀ s ∈ us, Spelt great s) ∧ us.length ≤ 100 ∧ 1 ≤ deep ∧ deep.toNat ≤ d ∧
  ∀ t st', TOk d t → Gr [n, l] st st' → DeckOk st' n → LeftOk st' l → Q t.p st'
theorem lc_filter {gd : Sto → Prop} {i : Nat} {env : Envp} {tt : WT} (f : PV → Bool) : ∀ (items acc : List PV) (st : Sto) (kk : List PV → Sto → Prop), gd st →
    (∀ x ∈ items, ∀ Q, Q (f x) st → tt (env.set i (some x)) st Q) → i < env.length → acc.length + items.length ≤ sizeLine → kk (acc ++ items.filter f) st → lcGo gd (gNm i) tt (wVar i) env items acc st kk
  | [], acc, st, kk, hg, _, _, _, k => ⟨hg, by simpa using k⟩
  | x :: xs, acc, st, kk, hg, h, hi, hl, k => by
    refine ⟨hg, ?_⟩
    simp only [List.length_cons] at hl
    refine h x List.mem_cons_self _ ?_
    have hx : (env.set i (some x))[i]? = some (some x) := List.getElem?_set_self hi
    cases hf : f x with
    | true =>
      rw [if_pos rfl]
      refine ⟨x, hx, by omega, ?_⟩
      refine lc_filter f xs _ st kk hg (fun y m => h y (List.mem_cons_of_mem _ m)) hi (by simp; omega) ?_
      simpa [hf] using k
    | false =>
      rw [if_neg Bool.false_ne_true]
      refine lc_filter f xs _ st kk hg (fun y m => h y (List.mem_cons_of_mem _ m)) hi (by omega) ?_
      simpa [hf] using k
theorem zip_mem {names : List Str} {cs : List Int} {x : PV} (h : x ∈ zipP (pStrs names) (pInts cs)) : ∃ nm c, x = .tup [.str nm, .int c] ∧ nm ∈ names ∧ c ∈ cs := by
  unfold zipP at h
  obtain ⟨⟨a, b⟩, hm, rfl⟩ := List.mem_map.mp h
  have h1 := (List.of_mem_zip hm).1
  have h2 := (List.of_mem_zip hm).2
  unfold pStrs at h1; unfold pInts at h2
  obtain ⟨nm, q1, rfl⟩ := List.mem_map.mp h1
  obtain ⟨c, q2, rfl⟩ := List.mem_map.mp h2
  exact ⟨nm, c, rfl, q1, q2⟩
def fits (deep left : Int) : PV → Bool
  | .tup [_, .int c] => c == 0 || (decide (1 < deep) && decide (c ≤ left))
  | _ => false
theorem strs_data (us : List Str) : isDs (pStrs us) = true ∧ dats (pStrs us) = us.map PyData.str := by
  induction us with
  | nil => exact ⟨rfl, rfl⟩
  | cons s us ih =>
    simp only [pStrs, List.map_cons] at ih ⊢
    simp only [isDs, isD, dats, dat, ih.1, ih.2, Bool.and_self]
    exact ⟨trivial, trivial⟩
/-- texts beside the empty list -/
theorem ne_nil {us : List Str} {st : Sto} {Q : PV → Sto → Prop} (h : ∀ s ∈ us, PyData.strOk s = true) (q : Q (.bl (!us.isEmpty)) st) : neA (.lst (pStrs us)) (.lst []) st Q := by
  show neR (.lst (pStrs us)) (.lst []) st Q
  obtain ⟨h1, h2⟩ := strs_data us
  refine ⟨.list (us.map PyData.str), .list [], by simp only [datS, isD, h1, if_true, dat, h2], rfl, ?_, rfl, ?_⟩
  · unfold SeqAt.shaped
    have e1 : PyData.canLay0 (.list (us.map PyData.str)) = true := by
      simp only [PyData.canLay0]; exact canLayAll_map PyData.str us h
    have e2 : PyData.depth (.list (us.map PyData.str)) ≤ 64 := by
      have := depthAll_map PyData.str 0 us fun s m => Nat.le_refl _
      simp only [PyData.depth]; omega
    rw [e1, decide_eq_true e2]; rfl
  · have : PyData.eqv (.list (us.map PyData.str)) (.list []) = us.isEmpty := by
      cases us <;> simp [PyData.eqv, PyData.eqvAll]
    rw [this]; exact q
end Pv

/-! PvF: types of a family: names, unknowns, terms; decks and what is left; promises as types. -/
namespace Pv
open PySem PySem.Spec L2
/-- 0: a name, 1: an unknown, 2 + d: a term d deep -/
def U1 : UT
  | 0, v => ∃ s, v = .str s ∧ Spelt small s
  | 1, v => ∃ s, v = .str s ∧ Spelt great s
  | d + 2, v => ∃ t, v = Trm.p t ∧ TOk d t
def us1 : US where
  into := fun f a u => match a, u with
    | .usr 1, d + 2 => true
    | .usr (e + 2), d + 2 => decide (e ≤ d)
    | .tup (a :: ts), d + 3 => f a (.usr 0) && decide (ts.length ≤ 3) && ts.all (fun t => f t (.usr (d + 2)))
    | _, _ => false
  unf := fun u => match u with
    | 0 => .str 1 6 none
    | 1 => .str 1 6 none
    | d + 2 => .dat d (tmLen d)
theorem terms_of {d : Nat} : ∀ {xs : List PV}, (∀ x ∈ xs, ∃ t, x = Trm.p t ∧ TOk d t) → ∃ ts : List Trm, xs = Trm.ps ts ∧ ts.length = xs.length ∧ ∀ t ∈ ts, TOk d t
  | [], _ => ⟨[], by simp [Trm.ps], rfl, nofun⟩
  | x :: xs, h => by
    obtain ⟨ts, e1, e2, e3⟩ := terms_of (xs := xs) fun y m => h y (List.mem_cons_of_mem _ m)
    obtain ⟨t, e, ht⟩ := h x List.mem_cons_self
    exact ⟨t :: ts, by rw [Trm.ps, e, e1], by simp [e2], fun u m => (List.mem_cons.mp m).elim (fun z => by rw [z]; exact ht) (e3 u)⟩
theorem ok1 : USok U1 us1 where
  unf := fun u v ρ ν h => by
    match u, h with
    | 0, ⟨s, e, h⟩ => simp only [us1, Ty.has]; exact ⟨s, e, h.ok small_ok, h.len.1, h.len.2, trivial⟩
    | 1, ⟨s, e, h⟩ => simp only [us1, Ty.has]; exact ⟨s, e, h.ok great_ok, h.len.1, h.len.2, trivial⟩
    | d + 2, ⟨t, e, ht⟩ => subst e; simp only [us1, Ty.has]; exact ⟨Trm.isD t, Trm.dok ht.ok⟩
  into := fun f ρ ν ρ' ν' a u v hf h g => by
    simp only [us1] at h
    split at h
    · simp only [Ty.has, U1] at g
      obtain ⟨s, e, h⟩ := g
      exact ⟨.u s, e, TOk.u.mpr h⟩
    · simp only [Ty.has, U1] at g
      obtain ⟨t, e, ht⟩ := g
      simp only [decide_eq_true_eq] at h
      exact ⟨t, e, ht.up h⟩
    · rename_i a ts d
      simp only [Bool.and_eq_true, decide_eq_true_eq] at h
      obtain ⟨⟨h1, h2⟩, h3⟩ := h
      simp only [Ty.has, Ty.hasL] at g
      obtain ⟨xs, rfl, y, ys, rfl, gy, gys⟩ := g
      have hy := hf a (.usr 0) y h1 gy
      simp only [Ty.has, U1] at hy
      obtain ⟨s, rfl, hs⟩ := hy
      have hall := allL_ok (U := U1) (ρ := ρ) (ν := ν) (ρ' := ρ') (ν' := ν') (f := f) (t := .usr (d + 2)) hf h3 gys
      obtain ⟨us, e1, e2, e3⟩ := terms_of (d := d) (xs := ys) fun x m => by
        have := hall x m
        simp only [Ty.has, U1] at this
        exact this
      refine ⟨.f s us, by rw [e1]; rfl, hs, by rw [e2, hasL_len gys]; exact h2, e3⟩
    · cases h
def anyI : Ty := .int none none .no
def deckT : Ty := .lst [anyI, anyI, anyI]
def leftT : Ty := .lst [anyI]
def isCell (us : US) (cs : List Ty) (n k : Nat) (t : Ty) : Bool := match cs[k]? with
  | some u => Ty.sub us cs.length n 25 u t
  | none => false
section
variable {U : UT} {us : US} {ρ ν : List Nat} {st st' : Sto} {cs : List Ty} {n : Nat}
theorem isCell_ok (ok : USok U us) (I : StoIn U cs n ρ ν st) {k : Nat} {t : Ty} (h : isCell us cs n k t = true) : ∃ a xs, ρ[k]? = some a ∧ st[a]? = some (.lst xs) ∧ t.has U ρ ν (.lst xs) := by
  unfold isCell at h
  split at h
  · rename_i u hu
    have hk := (List.getElem?_eq_some_iff.mp hu).1
    have hl := I.rl
    have ha : ρ[k]? = some (ρ[k]'(by omega)) := List.getElem?_eq_getElem _
    obtain ⟨xs, q1, q2⟩ := I.at_ k u _ hu ha
    exact ⟨_, xs, ha, q1, sub_self ok I h q2⟩
  · cases h
theorem deck_of {xs : List PV} (h : deckT.has U ρ ν (.lst xs)) : ∃ a b c : Int, xs = [.int a, .int b, .int c] := by
  simp only [deckT, anyI, Ty.has, Ty.hasL] at h
  obtain ⟨ys, e, y, zs, rfl, ⟨a, rfl, _⟩, y2, zs2, rfl, ⟨b, rfl, _⟩, y3, zs3, rfl, ⟨c, rfl, _⟩, rfl⟩ := h
  cases e
  exact ⟨a, b, c, rfl⟩
theorem deck_is (a b c : Int) : deckT.has U ρ ν (.lst [.int a, .int b, .int c]) := by
  simp only [deckT, anyI, Ty.has, Ty.hasL]
  exact ⟨_, rfl, _, _, rfl, ⟨a, rfl, trivial, trivial, trivial⟩, _, _, rfl, ⟨b, rfl, trivial, trivial, trivial⟩, _, _, rfl, ⟨c, rfl, trivial, trivial, trivial⟩, rfl⟩
theorem left_of {xs : List PV} (h : leftT.has U ρ ν (.lst xs)) : ∃ a : Int, xs = [.int a] := by
  simp only [leftT, anyI, Ty.has, Ty.hasL] at h
  obtain ⟨ys, e, y, zs, rfl, ⟨a, rfl, _⟩, rfl⟩ := h
  cases e
  exact ⟨a, rfl⟩
theorem left_is (a : Int) : leftT.has U ρ ν (.lst [.int a]) := by
  simp only [leftT, anyI, Ty.has, Ty.hasL]
  exact ⟨_, rfl, _, _, rfl, ⟨a, rfl, trivial, trivial, trivial⟩, rfl⟩
/-- cells that may be changed stand as their types behind -/
theorem StoIn.gr (I : StoIn U cs n ρ ν st) {ds : List Nat} (g : Gr ds st st') (h : ∀ (k : Nat) t a, cs[k]? = some t → ρ[k]? = some a → a ∈ ds → ∃ xs, st'[a]? = some (.lst xs) ∧ t.has U ρ ν (.lst xs)) : StoIn U cs n ρ ν st' where
  rl := I.rl
  nd := I.nd
  nl := I.nl
  at_ := fun k t a e1 e2 => by
    by_cases m : a ∈ ds
    · exact h k t a e1 e2 m
    · obtain ⟨xs, q1, q2⟩ := I.at_ k t a e1 e2
      exact ⟨xs, g.2 a _ m q1, q2⟩
theorem StoIn.retype (I : StoIn U cs n ρ ν st) {k a : Nat} {t : Ty} {xs : List PV} (e : ρ[k]? = some a) (h : st[a]? = some (.lst xs)) (g : t.has U ρ ν (.lst xs)) : StoIn U (cs.set k t) n ρ ν st where
  rl := by simp [I.rl]
  nd := I.nd
  nl := I.nl
  at_ := fun k' t' a' e1 e2 => by
    by_cases hk : k' = k
    · subst hk
      rw [e] at e2; cases e2
      have := (List.getElem?_eq_some_iff.mp e1).1
      rw [List.length_set] at this
      rw [List.getElem?_set_self this] at e1
      cases e1
      exact ⟨xs, h, g⟩
    · rw [List.getElem?_set_ne (Ne.symm hk)] at e1
      exact I.at_ k' t' a' e1 e2
theorem StoIn.deck (I : StoIn U cs n ρ ν st) {k a : Nat} (e : ρ[k]? = some a) (d : DeckOk st a) : StoIn U (cs.set k deckT) n ρ ν st := by
  obtain ⟨x, y, z, h⟩ := d
  exact I.retype e h (deck_is x y z)
theorem StoIn.left (I : StoIn U cs n ρ ν st) {k a : Nat} (e : ρ[k]? = some a) (d : LeftOk st a) : StoIn U (cs.set k leftT) n ρ ν st := by
  obtain ⟨x, h⟩ := d
  exact I.retype e h (left_is x)
theorem inj_at (I : StoIn U cs n ρ ν st) {k k' a : Nat} (e : ρ[k]? = some a) (e' : ρ[k']? = some a) : k = k' := by
  have h4 := (List.getElem?_eq_some_iff.mp e).1
  exact (List.getElem?_inj h4 I.nd).mp (e.trans e'.symm)
theorem Step.gr {ds : List Nat} (g : Gr ds st st') (h : ∀ a ∈ ds, a ∈ ρ) : Step ρ ν st ρ ν st' := ⟨List.prefix_rfl, List.prefix_rfl, g.sub h, fun _ h => .inl h⟩
/-- behind a deed on a deck -/
theorem deck_post (I : StoIn U cs n ρ ν st) {k a : Nat} (e : ρ[k]? = some a) (g : Gr [a] st st') (d : DeckOk st' a) : StoIn U (cs.set k deckT) n ρ ν st' ∧ Step ρ ν st ρ ν st' := by
  obtain ⟨x, y, z, h⟩ := d
  refine ⟨⟨by simp [I.rl], I.nd, I.nl, fun k' t' a' e1 e2 => ?_⟩, Step.gr g fun b m => by rw [List.mem_singleton] at m; subst m; exact List.mem_of_getElem? e⟩
  by_cases hk : k' = k
  · subst hk
    rw [e] at e2; cases e2
    have := (List.getElem?_eq_some_iff.mp e1).1
    rw [List.length_set] at this
    rw [List.getElem?_set_self this] at e1
    cases e1
    exact ⟨_, h, deck_is x y z⟩
  · rw [List.getElem?_set_ne (Ne.symm hk)] at e1
    obtain ⟨xs, q1, q2⟩ := I.at_ k' t' a' e1 e2
    exact ⟨xs, g.2 a' _ (by rw [List.mem_singleton]; intro z; subst z; exact hk (inj_at I e2 e)) q1, q2⟩
/-- behind a deed on a deck and on what is left -/
theorem deck_post2 (I : StoIn U cs n ρ ν st) {k a l b : Nat} (e : ρ[k]? = some a) (e' : ρ[l]? = some b) (hkl : k ≠ l) (g : Gr [a, b] st st') (d : DeckOk st' a) (d' : LeftOk st' b) : StoIn U ((cs.set k deckT).set l leftT) n ρ ν st' ∧ Step ρ ν st ρ ν st' := by
  obtain ⟨x, y, z, h⟩ := d
  obtain ⟨w, h'⟩ := d'
  refine ⟨⟨by simp [I.rl], I.nd, I.nl, fun k' t' a' e1 e2 => ?_⟩, Step.gr g fun c m => by
    simp only [List.mem_cons, List.not_mem_nil, or_false] at m
    rcases m with rfl | rfl
    · exact List.mem_of_getElem? e
    · exact List.mem_of_getElem? e'⟩
  by_cases hl : k' = l
  · subst hl
    rw [e'] at e2; cases e2
    have := (List.getElem?_eq_some_iff.mp e1).1
    rw [List.length_set] at this
    rw [List.getElem?_set_self this] at e1
    cases e1
    exact ⟨_, h', left_is w⟩
  · rw [List.getElem?_set_ne (Ne.symm hl)] at e1
    by_cases hk : k' = k
    · subst hk
      rw [e] at e2; cases e2
      have := (List.getElem?_eq_some_iff.mp e1).1
      rw [List.length_set] at this
      rw [List.getElem?_set_self this] at e1
      cases e1
      exact ⟨_, h, deck_is x y z⟩
    · rw [List.getElem?_set_ne (Ne.symm hk)] at e1
      obtain ⟨xs, q1, q2⟩ := I.at_ k' t' a' e1 e2
      refine ⟨xs, g.2 a' _ ?_ q1, q2⟩
      simp only [List.mem_cons, List.not_mem_nil, or_false, not_or]
      exact ⟨fun z => by subst z; exact hk (inj_at I e2 e), fun z => by subst z; exact hl (inj_at I e2 e')⟩
end
/-- a promise as a type -/
abbrev TyF := List Ty → List Ty → Nat → Option Rt
/-- what types of words are -/
structure Words (U : UT) : Prop where
  w0 : ∀ v, U 0 v ↔ ∃ s, v = .str s ∧ Spelt small s
  w1 : ∀ v, U 1 v ↔ ∃ s, v = .str s ∧ Spelt great s
theorem words1 : Words U1 := ⟨fun _ => Iff.rfl, fun _ => Iff.rfl⟩
def wordsF (us : US) : TyF := fun ts cs n => match ts with
  | [.cell k, .cst L, .int (some m) (some m') _] => if decide (m = m' ∧ 1 ≤ m ∧ m ≤ 6) && (L == small || L == great) && isCell us cs n k deckT then some (.lst (List.replicate m.toNat (.usr (if L == small then 0 else 1))), cs.set k deckT, n) else none
  | _ => none
def signT : Ty := .tup [.usr 0, .int (some 0) (some 3) .no]
def poolT : Ty := .dk [.inr (Str.ofString "signs"), .inr (Str.ofString "unknowns")] [.lst [.tup [.usr 0, .int (some 0) (some 0) .no], signT, signT, signT, signT], .lst [.usr 1, .usr 1, .usr 1, .usr 1]]
def termF (us : US) (code : Nat → Nat) : TyF := fun ts cs n => match ts with
  | [.cell k, p, u, .int (some lo) (some hi) _, .cell l] => if decide (1 ≤ lo ∧ hi ≤ 8 ∧ k ≠ l) && isCell us cs n k deckT && isCell us cs n l leftT && Ty.sub us cs.length n 25 p poolT && Ty.sub us cs.length n 25 u (.seq .lst (.usr 1) 0 100 none) then some (.usr (code hi.toNat), (cs.set k deckT).set l leftT, n) else none
  | _ => none
section
variable {U : UT} {us : US} {code : Nat → Nat} {ρ ν : List Nat} {st : Sto} {cs : List Ty} {n : Nat} {Q : PV → Sto → Prop} {xs : List PV} {r : Rt}
theorem cell_of {k : Nat} {v : PV} {a : Nat} (g : (Ty.cell k).has U ρ ν v) (e : ρ[k]? = some a) : v = .ref a := by
  simp only [Ty.has] at g
  obtain ⟨b, q, rfl⟩ := g
  rw [e] at q; cases q; rfl
theorem words_has {u : Nat} {L : Str} (hu : ∀ s, Spelt L s → U u (.str s)) : ∀ {ss : List Str}, (∀ s ∈ ss, Spelt L s) → Ty.hasL U ρ ν (List.replicate ss.length (.usr u)) (pStrs ss)
  | [], _ => by simp [pStrs, Ty.hasL]
  | s :: ss, h => by
    simp only [List.length_cons, List.replicate_succ, pStrs, List.map_cons, Ty.hasL]
    refine ⟨_, _, rfl, ?_, words_has hu fun t m => h t (List.mem_cons_of_mem _ m)⟩
    simp only [Ty.has]
    exact hu s (h s List.mem_cons_self)
theorem wordsF_ok (ok : USok U us) (W : Words U) (I : StoIn U cs n ρ ν st) {ts : List Ty} (h : wordsF us ts cs n = some r) (g : Ty.hasL U ρ ν ts xs) (P : PostE U r ρ ν st Q) : S_words xs st Q := by
  unfold wordsF at h
  split at h
  · rename_i k L m m' s
    split at h
    · rename_i hb
      cases h
      simp only [Bool.and_eq_true, Bool.or_eq_true, decide_eq_true_eq, beq_iff_eq] at hb
      obtain ⟨⟨⟨hm, h1, h6⟩, hL⟩, hc⟩ := hb
      simp only [Ty.hasL] at g
      obtain ⟨y1, ys1, rfl, g1, y2, ys2, rfl, g2, y3, ys3, rfl, g3, rfl⟩ := g
      obtain ⟨a, zs, e, e2, hd⟩ := isCell_ok ok I hc
      obtain ⟨x, y, z, rfl⟩ := deck_of hd
      cases cell_of g1 e
      simp only [Ty.has] at g2 g3
      obtain ⟨rfl, hLo⟩ := g2
      obtain ⟨i, rfl, b1, b2, _⟩ := g3
      simp only [geO, leO] at b1 b2
      have hi : i = m := by omega
      subst hi
      refine ⟨a, L, i, rfl, ⟨x, y, z, e2⟩, by rcases hL with rfl | rfl; exact small_len; exact great_len, hLo, h1, h6, fun ss st' hl hs g d => ?_⟩
      obtain ⟨I', s'⟩ := deck_post I e g d
      refine P ρ ν st' _ s' I' ?_
      simp only [Ty.has]
      refine ⟨_, rfl, ?_⟩
      rw [show i.toNat = ss.length by omega]
      refine words_has (L := L) (fun s hs => ?_) hs
      split
      · rename_i hq; simp only [beq_iff_eq] at hq; subst hq; exact (W.w0 _).mpr ⟨s, rfl, hs⟩
      · rename_i hq
        simp only [beq_iff_eq] at hq
        rcases hL with z | z
        · exact absurd z hq
        · subst z; exact (W.w1 _).mpr ⟨s, rfl, hs⟩
    · cases h
  · cases h
theorem pool_of (W : Words U) {v : PV} (g : poolT.has U ρ ν v) : ∃ names cs unk, v = poolP names cs unk ∧ PoolOk names cs unk := by
  simp only [poolT, signT, Ty.has, Ty.hasL, geO, leO, W.w0, W.w1] at g
  obtain ⟨ws, rfl, y, ys, rfl, ⟨ls, rfl, p0, q0, rfl, ⟨r0, rfl, a0, c0, rfl, ⟨n0, rfl, h0⟩, b0, d0, rfl, ⟨i0, rfl, l0, u0, _⟩, rfl⟩, p1, q1, rfl, ⟨r1, rfl, a1, c1, rfl, ⟨n1, rfl, h1⟩, b1, d1, rfl, ⟨i1, rfl, l1, u1, _⟩, rfl⟩,
    p2, q2, rfl, ⟨r2, rfl, a2, c2, rfl, ⟨n2, rfl, h2⟩, b2, d2, rfl, ⟨i2, rfl, l2, u2, _⟩, rfl⟩, p3, q3, rfl, ⟨r3, rfl, a3, c3, rfl, ⟨n3, rfl, h3⟩, b3, d3, rfl, ⟨i3, rfl, l3, u3, _⟩, rfl⟩, p4, q4, rfl, ⟨r4, rfl, a4, c4, rfl, ⟨n4, rfl, h4⟩, b4, d4, rfl, ⟨i4, rfl, l4, u4, _⟩, rfl⟩, rfl⟩,
    z, zs, rfl, ⟨ms, rfl, w0, x0, rfl, ⟨s0, rfl, t0⟩, w1, x1, rfl, ⟨s1, rfl, t1⟩, w2, x2, rfl, ⟨s2, rfl, t2⟩, w3, x3, rfl, ⟨s3, rfl, t3⟩, rfl⟩, rfl⟩ := g
  have e0 : i0 = 0 := by omega
  subst e0
  refine ⟨[n0, n1, n2, n3, n4], [0, i1, i2, i3, i4], [s0, s1, s2, s3], rfl, rfl, fun s m => ?_, ⟨_, rfl⟩, rfl, fun c m => ?_, rfl, fun s m => ?_⟩
  · simp only [List.mem_cons, List.not_mem_nil, or_false] at m
    rcases m with rfl | rfl | rfl | rfl | rfl <;> assumption
  · simp only [List.mem_cons, List.not_mem_nil, or_false] at m
    rcases m with rfl | rfl | rfl | rfl | rfl <;> omega
  · simp only [List.mem_cons, List.not_mem_nil, or_false] at m
    rcases m with rfl | rfl | rfl | rfl <;> assumption
theorem unk_of (W : Words U) {lo hi : Nat} {id : Option Nat} {v : PV} (g : (Ty.seq .lst (.usr 1) lo hi id).has U ρ ν v) : ∃ us, v = .lst (pStrs us) ∧ (∀ s ∈ us, Spelt great s) ∧ us.length ≤ hi := by
  simp only [Ty.has, W.w1] at g
  obtain ⟨xs, rfl, _, h2, _, h3⟩ := g
  have : ∀ {xs : List PV}, (∀ x ∈ xs, ∃ s, x = PV.str s ∧ Spelt great s) → ∃ us, xs = pStrs us ∧ ∀ s ∈ us, Spelt great s := by
    intro xs
    induction xs with
    | nil => exact fun _ => ⟨[], rfl, nofun⟩
    | cons x xs ih =>
      intro h
      obtain ⟨us, e, hu⟩ := ih fun y m => h y (List.mem_cons_of_mem _ m)
      obtain ⟨s, e1, hs⟩ := h x List.mem_cons_self
      exact ⟨s :: us, by rw [e, e1]; rfl, fun t m => (List.mem_cons.mp m).elim (fun z => by rw [z]; exact hs) (hu t)⟩
  obtain ⟨us, rfl, hu⟩ := this h3
  exact ⟨us, rfl, hu, by simpa [pStrs] using h2⟩
theorem termF_ok (ok : USok U us) (W : Words U) (hcode : ∀ d t, d ≤ 8 → TOk d t → U (code d) t.p) (I : StoIn U cs n ρ ν st) {ts : List Ty} (h : termF us code ts cs n = some r) (g : Ty.hasL U ρ ν ts xs) (P : PostE U r ρ ν st Q) : ∃ d, d ≤ 8 ∧ S_term d xs st Q := by
  unfold termF at h
  split at h
  · rename_i k p u lo hi s l
    split at h
    · rename_i hb
      cases h
      simp only [Bool.and_eq_true, decide_eq_true_eq] at hb
      obtain ⟨⟨⟨⟨⟨h1, h8, hkl⟩, hc⟩, hc2⟩, hp⟩, hu⟩ := hb
      simp only [Ty.hasL] at g
      obtain ⟨y1, ys1, rfl, g1, y2, ys2, rfl, g2, y3, ys3, rfl, g3, y4, ys4, rfl, g4, y5, ys5, rfl, g5, rfl⟩ := g
      obtain ⟨a, zs, e, e2, hd⟩ := isCell_ok ok I hc
      obtain ⟨x, y, z, rfl⟩ := deck_of hd
      obtain ⟨b, zs', e', e2', hd'⟩ := isCell_ok ok I hc2
      obtain ⟨w, rfl⟩ := left_of hd'
      cases cell_of g1 e
      cases cell_of g5 e'
      obtain ⟨names, qs, unk, rfl, hP⟩ := pool_of W (sub_self ok I hp g2)
      obtain ⟨us, rfl, hus, hul⟩ := unk_of W (sub_self ok I hu g3)
      simp only [Ty.has, geO, leO] at g4
      obtain ⟨i, rfl, b1, b2, _⟩ := g4
      refine ⟨hi.toNat, by omega, a, b, names, qs, unk, us, i, rfl, fun z => hkl (inj_at I e (by rw [z]; exact e')), ⟨x, y, z, e2⟩, ⟨w, e2'⟩, hP, hus, hul, by omega, by omega, fun t st' ht g d l => ?_⟩
      obtain ⟨I', s'⟩ := deck_post2 I e e' hkl g d l
      refine P ρ ν st' _ s' I' ?_
      simp only [Ty.has]
      exact hcode _ t (by omega) ht
    · cases h
  · cases h
end
end Pv
namespace Pv
open PySem PySem.Spec L2
/-- the answer is True -/
def isTrueR : Option Rt → Bool
  | some (.bl false true, _, _) => true
  | _ => false
theorem law_by {U : UT} {us : US} (ok : USok U us) {P : List QF} {sm : SM} {f k : Nat} (hsm : ∀ f lv F, sm f = some (lv, F) → ∀ k, lv ≤ k → ∀ ts cs n r, F ts cs n = some r → ∀ ρ ν st xs Q, StoIn U cs n ρ ν st → Ty.hasL U ρ ν ts xs → PostE U r ρ ν st Q → Sem P k f xs st Q)
    {tm : TM} (htm : ∀ F ∈ P, ∀ p ∈ F.body.tags, ∀ lv G, tm p.1 = some (lv, G) → ∀ k, lv ≤ k → TagOk U (Sem P k) G p.2)
    (h : isTrueR (evF us P sm tm k f [.seq .fls anyI 0 63 none] [] 0) = true) (ns : List Int) (Q : PV → Sto → Prop) (hn : ns.length ≤ 63) (q : ∀ st', Q (.bl true) st') : Sem P k f [.fls (pInts ns)] [] Q := by
  unfold isTrueR at h
  split at h
  · rename_i cs n e
    refine evF_ok ok hsm htm k f _ [] 0 _ e [] [] [] [.fls (pInts ns)] Q ⟨rfl, by simp, rfl, fun k t a e1 e2 => by simp at e1⟩ ?_ fun ρ' ν' st' v s I g => ?_
    · simp only [Ty.hasL, Ty.has, anyI]
      refine ⟨_, _, rfl, ⟨_, rfl, Nat.zero_le _, by simpa [pInts] using hn, trivial, fun x m => ?_⟩, rfl⟩
      obtain ⟨i, _, rfl⟩ := List.mem_map.mp m
      exact ⟨i, rfl, trivial, trivial, trivial⟩
    · simp only [Ty.has] at g
      obtain ⟨b, rfl, hb⟩ := g
      cases b with
      | true => exact q st'
      | false => cases hb
  · cases h
end Pv

/-! PvP: parts of terms. -/
namespace Pv
open PySem PySem.Spec L2
mutual
def parts : Trm → List (List Nat × Trm)
  | .u s => [([], .u s)]
  | .f s as => ([], .f s as) :: partsL 0 as
def partsL : Nat → List Trm → List (List Nat × Trm)
  | _, [] => []
  | k, a :: as => ((parts a).map fun p => (k :: p.1, p.2)) ++ partsL (k + 1) as
end
def spotP (s : List Nat) : PV := .tup (s.map fun k : Nat => PV.int k)
def partP (p : List Nat × Trm) : PV := .tup [spotP p.1, p.2.p]
def cap : Nat → Nat
  | 0 => 1
  | d + 1 => 1 + 3 * cap d
theorem parts_eq (t : Trm) : parts t = ([], t) :: partsL 0 t.args := by cases t <;> simp [parts, partsL, Trm.args]
theorem spot_len : ∀ {d : Nat} {t : Trm}, Trm.ok d t → (∀ p ∈ parts t, p.1.length ≤ d) ∧ (parts t).length ≤ cap d
  | d, .u s, h => by
    have hc : 1 ≤ cap d := by cases d <;> simp [cap]
    simp only [parts, List.mem_singleton, List.length_singleton]
    exact ⟨fun p e => by subst e; exact Nat.zero_le _, hc⟩
  | 0, .f s as, h => h.elim
  | d + 1, .f s as, h => by
    have key : ∀ (as : List Trm) (k : Nat), (∀ a ∈ as, Trm.ok d a) → (∀ p ∈ partsL k as, p.1.length ≤ d + 1) ∧ (partsL k as).length ≤ as.length * cap d := by
      intro as
      induction as with
      | nil => intro k _; simp [partsL]
      | cons a as ih =>
        intro k ha
        obtain ⟨h1, h2⟩ := spot_len (ha a List.mem_cons_self)
        obtain ⟨h3, h4⟩ := ih (k + 1) fun x m => ha x (List.mem_cons_of_mem _ m)
        refine ⟨fun p m => ?_, ?_⟩
        · simp only [partsL, List.mem_append, List.mem_map] at m
          rcases m with ⟨q, mq, rfl⟩ | m
          · have := h1 q mq
            simp only [List.length_cons]; omega
          · exact h3 p m
        · simp only [partsL, List.length_append, List.length_map, List.length_cons, Nat.add_mul]
          omega
    obtain ⟨h1, h2⟩ := key as 0 h.2.2
    have h3 : as.length * cap d ≤ 3 * cap d := Nat.mul_le_mul_right _ h.2.1
    simp only [parts, List.mem_cons, List.length_cons, cap]
    refine ⟨fun p m => ?_, by omega⟩
    rcases m with rfl | m
    · exact Nat.zero_le _
    · exact h1 p m
def enF : Nat → List PV → List PV
  | _, [] => []
  | k, x :: xs => .tup [.int (k : Nat), x] :: enF (k + 1) xs
theorem enF_eq : ∀ (xs : List PV) (k : Nat), (xs.mapIdx fun i y => PV.tup [.int ((k + i : Nat)), y]) = enF k xs
  | [], _ => rfl
  | x :: xs, k => by
    rw [List.mapIdx_cons, enF, ← enF_eq xs (k + 1)]
    congr 1
    congr 1
    funext i y
    rw [show k + 1 + i = k + (i + 1) by omega]
theorem enP_eq (xs : List PV) : enP xs = enF 0 xs := by
  rw [← enF_eq]; unfold enP
  congr 1; funext i y; rw [Nat.zero_add]
theorem lc_parts {gd : Sto → Prop} {x0 x1 x3 y4 y5 : Option PV} {k : Nat} : ∀ (ps : List (List Nat × Trm)) (acc : List PV) (st : Sto) (kk : List PV → Sto → Prop), gd st → acc.length + ps.length ≤ sizeLine → (∀ p ∈ ps, p.1.length ≤ 100) → kk (acc ++ ps.map fun p => partP (k :: p.1, p.2)) st →
    lcGo gd (gTp 2 (gCn (gNm 4) (gCn (gNm 5) gNl))) tYesP (wTup (wCons (wOp (addR false) (wTup (wCons (wVar 2) wNil)) (wVar 4)) (wCons (wVar 5) wNil))) [x0, x1, some (.int (k : Nat)), x3, y4, y5] (ps.map partP) acc st kk
  | [], acc, st, kk, hg, _, _, h => ⟨hg, by simpa using h⟩
  | p :: ps, acc, st, kk, hg, hl, hp, h => by
    have big : (1000 : Nat) ≤ sizeLine := by decide
    refine ⟨hg, ?_⟩
    simp only [partP, spotP, tYesP, sSeq, sIf, sAsg, sRet, sRetN, sNext, sDrop, gNm, gIx, gTp, gCn, gNl, tValP, tTru, truP, tNotP, tAndP, tOrP, wOp, wVar, wC, wCa, wCons, wNil, wTup, wLst, wIf, wCall, wNeg, startP, List.map_cons, List.map_nil, List.cons_append, List.nil_append, List.getElem?_cons_zero, List.getElem?_cons_succ, List.length_cons, List.length_nil, Nat.reduceAdd, Nat.reduceSub, List.replicate_succ, List.replicate_zero, List.set_cons_zero, List.set_cons_succ, Option.some.injEq, exists_eq_left', PV.bl.injEq, PV.int.injEq, PV.str.injEq, PV.ref.injEq, PV.tup.injEq, PV.lst.injEq, Cell.lst.injEq, List.cons.injEq, and_true, true_and, exists_and_left, r_add, r_adds, r_addt, r_addl, r_sub, r_mul, r_fdiv, r_mod, r_pow, r_lt, r_le, r_gt, r_ge, r_eqi, r_nei, r_eqs, r_nes, r_inti, r_intb, r_ixr, r_ixl, r_ixt, r_newt, r_newf, atI_0, atI_1, atI_2, decide_eq_true_eq]
    simp only [List.length_cons] at hl
    have h1 := hp p List.mem_cons_self
    refine ⟨_, _, ⟨rfl, rfl⟩, _, _, rfl, rfl, ?_⟩
    simp only [if_true, r_addt, List.length_map, List.length_cons, List.length_nil]
    refine ⟨by omega, by omega, by omega, by omega, ?_⟩
    refine lc_parts ps _ st kk hg (by simp; omega) (fun q m => hp q (List.mem_cons_of_mem _ m)) ?_
    simpa [partP, spotP] using h
def atT : Trm → List Nat → Option Trm
  | t, [] => some t
  | t, k :: s => match t.args[k]? with
    | some a => atT a s
    | none => none
def putT : List Nat → Trm → Trm → Trm
  | [], _, o => o
  | k :: ss, .f s as, o => .f s (match as[k]? with
    | some a => as.set k (putT ss a o)
    | none => as)
  | _ :: _, .u s, _ => .u s
theorem ints_lay : ∀ s : List Nat, PyData.canLayAll0 (dats (s.map fun k : Nat => PV.int k)) = true ∧ PyData.depthAll (dats (s.map fun k : Nat => PV.int k)) = 0
  | [] => ⟨rfl, rfl⟩
  | k :: s => by
    obtain ⟨h1, h2⟩ := ints_lay s
    simp only [List.map_cons, dats, dat, PyData.canLayAll0, PyData.canLay0, PyData.depthAll, PyData.depth, h1, h2]
    exact ⟨rfl, rfl⟩
theorem ints_isD : ∀ s : List Nat, isDs (s.map fun k : Nat => PV.int k) = true
  | [] => rfl
  | k :: s => by simp only [List.map_cons, isDs, isD, ints_isD s, Bool.and_self]
theorem spot_sh (s : List Nat) : SeqAt.shaped (.tuple (dats (s.map fun k : Nat => PV.int k))) = true := by
  obtain ⟨h1, h2⟩ := ints_lay s
  unfold SeqAt.shaped
  simp only [PyData.canLay0, PyData.depth, h1, h2]; rfl
theorem spot_datS (st : Sto) (s : List Nat) : datS st (spotP s) = some (.tuple (dats (s.map fun k : Nat => PV.int k))) := by
  unfold spotP
  have h : isD (PV.tup (s.map fun k : Nat => PV.int k)) = true := by simp only [isD]; exact ints_isD s
  simp only [datS, h, if_true, dat]
theorem spot_eqv (s : List Nat) : PyData.eqv (.tuple (dats (s.map fun k : Nat => PV.int k))) (.tuple []) = s.isEmpty := by
  cases s <;> simp [dats, PyData.eqv, PyData.eqvAll]
theorem r_eqn {s : List Nat} {st : Sto} {Q : PV → Sto → Prop} (q : Q (.bl s.isEmpty) st) : eqA (spotP s) (.tup []) st Q := by
  show eqR (spotP s) (.tup []) st Q
  refine ⟨_, .tuple [], spot_datS st s, rfl, spot_sh s, rfl, ?_⟩
  rw [spot_eqv]; exact q
theorem r_nen {s : List Nat} {st : Sto} {Q : PV → Sto → Prop} (q : Q (.bl (!s.isEmpty)) st) : neA (spotP s) (.tup []) st Q := by
  show neR (spotP s) (.tup []) st Q
  refine ⟨_, .tuple [], spot_datS st s, rfl, spot_sh s, rfl, ?_⟩
  rw [spot_eqv]; exact q
theorem ps_get : ∀ {as : List Trm} {k : Nat} {a : Trm}, as[k]? = some a → atI (Trm.ps as) (k : Int) = some a.p := fun {as k a} h => atI_nat (by rw [Trm.ps_map, List.getElem?_map, h]; rfl)
theorem ps_set (as : List Trm) (k : Nat) (a : Trm) : (Trm.ps as).set k a.p = Trm.ps (as.set k a) := by
  rw [Trm.ps_map, Trm.ps_map, List.map_set]
theorem at_cons {t p : Trm} {k : Nat} {ss : List Nat} (h : atT t (k :: ss) = some p) : ∃ s as a, t = .f s as ∧ as[k]? = some a ∧ atT a ss = some p := by
  simp only [atT] at h
  split at h
  · rename_i a ha
    cases t with
    | u s => simp [Trm.args] at ha
    | f s as => exact ⟨s, as, a, rfl, ha, h⟩
  · cases h
theorem set_cut {α : Type} {xs : List α} {k : Nat} {y : α} (h : k < xs.length) : xs.take k ++ [y] ++ xs.drop (k + 1) = xs.set k y := by
  rw [List.set_eq_take_append_cons_drop, if_pos h]; simp
def eqT (a b : Trm) : Bool := PyData.eqv (dat a.p) (dat b.p)
mutual
def sw (o : Trm) : Trm → Bool
  | .u _ => false
  | .f _ as => swL o as
def swL (o : Trm) : List Trm → Bool
  | [] => false
  | a :: as => (eqT o a || sw o a) || swL o as
end
theorem sw_any (o t : Trm) : sw o t = (t.args.map fun a => eqT o a || sw o a).any id := by
  have h : ∀ as, swL o as = (as.map fun a => eqT o a || sw o a).any id := by
    intro as
    induction as with
    | nil => simp [swL]
    | cons a as ih => simp [swL, ih]
  cases t with
  | u s => simp [sw, Trm.args]
  | f s as => simp only [sw, Trm.args]; exact h as
theorem r_eqT {a b : Trm} {d : Nat} {st : Sto} {Q : PV → Sto → Prop} (ha : Trm.ok d a) (hb : Trm.ok d b) (hd : d ≤ 64) (q : Q (.bl (eqT a b)) st) : eqA a.p b.p st Q := by
  have gen : eqR a.p b.p st Q := ⟨_, _, Trm.datS st a, Trm.datS st b, (Trm.dok ha).shaped hd, (Trm.dok hb).shaped hd, q⟩
  cases a with
  | u s =>
    cases b with
    | u t => exact q
    | f t bs => exact gen
  | f s as => exact gen
theorem all2_bls {f : Trm → Bool} : ∀ {as : List Trm} {ys : List PV}, All2 (fun x y => ∀ a, x = Trm.p a → y = .bl (f a)) (Trm.ps as) ys → ys = pBls (as.map f)
  | [], _, .nil => rfl
  | a :: as, _, .cons h t => by rw [h a rfl, all2_bls t]; rfl
theorem p_inj {a b : Trm} (h : a.p = b.p) : a = b := by
  refine (Trm.eqv a b).mp ?_
  rw [← h]
  exact (Trm.eqv a a).mpr rfl
def S_within : Spc := fun xs st Q => ∃ t, xs = [Trm.p t] ∧ Q (.tup (Trm.ps t.args)) st
def S_parts (d : Nat) : Spc := fun xs st Q => ∃ t, xs = [Trm.p t] ∧ Trm.ok d t ∧ d ≤ 8 ∧ ∀ m st', st.length ≤ m → Gr [] st st' → st'[m]? = some (.lst ((parts t).map partP)) → Q (.ref m) st'
def S_part_at : Spc := fun xs st Q => ∃ t s p, xs = [Trm.p t, spotP s] ∧ atT t s = some p ∧ Q p.p st
def S_put (d : Nat) : Spc := fun xs st Q => ∃ t s o p e, xs = [Trm.p t, spotP s, Trm.p o] ∧ atT t s = some p ∧ Trm.ok e t ∧ s.length ≤ d ∧ ∀ st', Gr [] st st' → Q (putT s t o).p st'
def S_sw (d : Nat) : Spc := fun xs st Q => ∃ o t, xs = [Trm.p o, Trm.p t] ∧ Trm.ok 8 o ∧ Trm.ok d t ∧ d ≤ 8 ∧ ∀ st', Gr [] st st' → Q (.bl (sw o t)) st'
end Pv

/-! PvP2: parts of terms, plain laws. -/
namespace Pv
open PySem PySem.Spec L2
/-- the text's length of a term d deep, three right in it -/
def tmB : Nat → Nat
  | 0 => 62
  | d + 1 => 3 * tmB d + 73
theorem tmB_ge : ∀ d, 62 ≤ tmB d
  | 0 => Nat.le_refl _
  | d + 1 => by unfold tmB; have := tmB_ge d; omega
theorem tmB_up {d e : Nat} (h : d ≤ e) : tmB d ≤ tmB e := by
  induction e with
  | zero => have : d = 0 := by omega
            subst this; exact Nat.le_refl _
  | succ e ih =>
    by_cases he : d = e + 1
    · subst he; exact Nat.le_refl _
    · have := ih (by omega)
      have e2 : tmB (e + 1) = 3 * tmB e + 73 := rfl
      omega
theorem tl_str {s : Str} (h : GoodS s) : tl (.str s) ≤ 62 := by simp only [tl]; have := h.2.1; omega
theorem Trm.len : ∀ {d : Nat} {t : Trm}, Trm.ok d t → tl (dat t.p) ≤ tmB d
  | d, .u s, h => by
    simp only [Trm.p, dat]
    exact Nat.le_trans (tl_str (Trm.ok_u.mp h)) (tmB_ge d)
  | 0, .f _ _, h => h.elim
  | d + 1, .f s as, h => by
    simp only [Trm.p, dat, dats, tl, tls]
    have h1 := tl_str h.1
    have h2 : tls (dats (Trm.ps as)) ≤ (tmB d + 2) * as.length := by
      rw [dats_map, Trm.ps_map, List.map_map]
      exact tls_map (dat ∘ Trm.p) (tmB d) as fun a m => Trm.len (h.2.2 a m)
    have h3 : (tmB d + 2) * as.length ≤ (tmB d + 2) * 3 := Nat.mul_le_mul_left _ h.2.1
    simp only [tl] at h1
    unfold tmB
    omega
theorem Trm.dokL {d n : Nat} {t : Trm} (h : Trm.ok d t) (hn : tl (dat t.p) ≤ n) : DOk d n (dat t.p) := ⟨(Trm.dok h).lay, (Trm.dok h).deep, (Trm.dok h).show_, hn⟩
/-- a repr of a term -/
theorem r_repr {d n : Nat} {t : Trm} {st : Sto} {Q : PV → Sto → Prop} (h : DOk d n (dat t.p)) (hd : d ≤ 64) (hn : n ≤ sizeLine) (q : Q (.str (dat t.p).shown) st) : reprR [t.p] st Q :=
  ⟨t.p, dat t.p, rfl, Trm.datS st t, h.show_, Nat.le_trans h.deep hd, h.shown hn, q⟩
theorem r_reprB {b : Bool} {st : Sto} {Q : PV → Sto → Prop} (q : Q (.str (PyData.bool b).shown) st) : reprR [.bl b] st Q :=
  ⟨_, .bool b, rfl, rfl, rfl, Nat.zero_le _, by cases b <;> decide, q⟩
mutual
theorem mem_parts : ∀ (t : Trm) (p : List Nat × Trm), p ∈ parts t → atT t p.1 = some p.2
  | .u s, p, m => by
    simp only [parts, List.mem_singleton] at m
    subst m; rfl
  | .f s as, p, m => by
    simp only [parts, List.mem_cons] at m
    rcases m with rfl | m
    · rfl
    · obtain ⟨j, q, hp, a, ha, hq⟩ := mem_partsL as 0 p m
      rw [hp]
      simp only [atT, Trm.args]
      rw [Nat.sub_zero] at ha
      rw [ha]; exact hq
theorem mem_partsL : ∀ (as : List Trm) (k : Nat) (p : List Nat × Trm), p ∈ partsL k as → ∃ j q, p.1 = j :: q ∧ ∃ a, as[j - k]? = some a ∧ atT a q = some p.2
  | [], _, _, m => by simp [partsL] at m
  | a :: as, k, p, m => by
    simp only [partsL, List.mem_append, List.mem_map] at m
    rcases m with ⟨q, mq, rfl⟩ | m
    · exact ⟨k, q.1, rfl, a, by simp, mem_parts a q mq⟩
    · obtain ⟨j, q, hp, b, hb, hq⟩ := mem_partsL as (k + 1) p m
      refine ⟨j, q, hp, b, ?_, hq⟩
      have hj : k + 1 ≤ j := partsL_ge as (k + 1) p m j q hp
      rw [show j - k = (j - (k + 1)) + 1 by omega, List.getElem?_cons_succ]
      exact hb
theorem partsL_ge : ∀ (as : List Trm) (k : Nat) (p : List Nat × Trm), p ∈ partsL k as → ∀ j q, p.1 = j :: q → k ≤ j
  | [], _, _, m, _, _, _ => by simp [partsL] at m
  | a :: as, k, p, m, j, q, e => by
    simp only [partsL, List.mem_append, List.mem_map] at m
    rcases m with ⟨r, mq, rfl⟩ | m
    · simp only [List.cons.injEq] at e; omega
    · have := partsL_ge as (k + 1) p m j q e; omega
end
theorem at_ok : ∀ {s : List Nat} {d : Nat} {t p : Trm}, Trm.ok d t → atT t s = some p → Trm.ok d p
  | [], d, t, p, h, e => by simp only [atT, Option.some.injEq] at e; subst e; exact h
  | k :: s, d, t, p, h, e => by
    obtain ⟨n, as, a, rfl, ha, e2⟩ := at_cons e
    obtain ⟨e', rfl, he⟩ := Trm.ok_arg h (show a ∈ (Trm.f n as).args from List.mem_of_getElem? ha)
    exact Trm.ok_up (at_ok he e2) (Nat.le_succ _)
theorem put_self : ∀ {s : List Nat} {t p : Trm}, atT t s = some p → putT s t p = t
  | [], t, p, e => by simp only [atT, Option.some.injEq] at e; subst e; rfl
  | k :: s, t, p, e => by
    obtain ⟨n, as, a, rfl, ha, e2⟩ := at_cons e
    simp only [putT, ha, put_self e2]
    obtain ⟨hk, hka⟩ := List.getElem?_eq_some_iff.mp ha
    rw [← hka, List.set_getElem_self]
theorem put_ok : ∀ {s : List Nat} {d c : Nat} {t o : Trm}, Trm.ok d t → Trm.ok c o → Trm.ok (d + c) (putT s t o)
  | [], d, c, t, o, h, g => Trm.ok_up g (by omega)
  | k :: s, d, c, .u n, o, h, g => by simp only [putT]; exact Trm.ok_up h (by omega)
  | k :: s, 0, c, .f n as, o, h, g => h.elim
  | k :: s, d + 1, c, .f n as, o, h, g => by
    simp only [putT]
    rw [show d + 1 + c = (d + c) + 1 by omega]
    cases ha : as[k]? with
    | none => exact ⟨h.1, h.2.1, fun a m => Trm.ok_up (h.2.2 a m) (by omega)⟩
    | some a =>
      refine ⟨h.1, by rw [List.length_set]; exact h.2.1, fun b m => ?_⟩
      rcases List.mem_or_eq_of_mem_set m with m | m
      · exact Trm.ok_up (h.2.2 b m) (by omega)
      · subst m; exact put_ok (h.2.2 a (List.mem_of_getElem? ha)) g
theorem tls_set : ∀ {xs : List PyData} {k : Nat} {x y : PyData} {n : Nat}, xs[k]? = some x → tl y ≤ tl x + n → tls (xs.set k y) ≤ tls xs + n
  | [], k, x, y, n, e, _ => by simp at e
  | z :: xs, 0, x, y, n, e, h => by
    simp at e; subst e
    simp only [List.set_cons_zero, tls]; omega
  | z :: xs, k + 1, x, y, n, e, h => by
    have := tls_set (xs := xs) (k := k) (by simpa using e) h
    simp only [List.set_cons_succ, tls]; omega
theorem put_len : ∀ {s : List Nat} {t o : Trm}, tl (dat (putT s t o).p) ≤ tl (dat t.p) + tl (dat o.p)
  | [], t, o => by simp only [putT]; omega
  | k :: s, .u n, o => by simp only [putT]; omega
  | k :: s, .f n as, o => by
    simp only [putT]
    cases ha : as[k]? with
    | none => simp only [Trm.p, dat, dats, tl, tls]; omega
    | some a =>
      have ih := put_len (s := s) (t := a) (o := o)
      have hx : (dats (Trm.ps as))[k]? = some (dat a.p) := by rw [dats_map, Trm.ps_map, List.map_map, List.getElem?_map, ha]; rfl
      have := tls_set (y := dat (putT s a o).p) hx ih
      have e : dats (Trm.ps (as.set k (putT s a o))) = (dats (Trm.ps as)).set k (dat (putT s a o).p) := by
        rw [dats_map, dats_map, Trm.ps_map, Trm.ps_map, List.map_set, List.map_set]
      simp only [Trm.p, dat, dats, tl, tls, e]
      omega
theorem eqT_eq (a b : Trm) : (eqT a b = true) ↔ a = b := Trm.eqv a b
theorem eqT_comm (a b : Trm) : eqT a b = eqT b a := by
  cases h : eqT a b with
  | true => rw [(eqT_eq a b).mp h]; exact ((eqT_eq b b).mpr rfl).symm
  | false =>
    cases h2 : eqT b a with
    | true => rw [(eqT_eq b a).mp h2] at h; rw [(eqT_eq a a).mpr rfl] at h; cases h
    | false => rfl
mutual
theorem sw_parts (o : Trm) : ∀ t : Trm, sw o t = (partsL 0 t.args).any fun p => eqT p.2 o
  | .u s => rfl
  | .f s as => by simp only [sw, Trm.args]; exact swL_parts o as 0
theorem swL_parts (o : Trm) : ∀ (as : List Trm) (k : Nat), swL o as = (partsL k as).any fun p => eqT p.2 o
  | [], k => rfl
  | a :: as, k => by
    simp only [swL, partsL, List.any_append, List.any_map]
    rw [swL_parts o as (k + 1)]
    congr 1
    have : ((parts a).any ((fun p => eqT p.2 o) ∘ fun p => (k :: p.1, p.2))) = (parts a).any fun p => eqT p.2 o := rfl
    rw [this, parts_eq, List.any_cons, sw_parts o a, eqT_comm]
end
theorem lst_shown {os : List Trm} {d n m : Nat} (h : ∀ o ∈ os, DOk d n (dat o.p)) (hl : os.length ≤ m) : DOk (d + 1) (3 + (n + 2) * m) (.list (dats (Trm.ps os))) := by
  refine DOk.lst (fun x mx => ?_) (by rw [dats_map, Trm.ps_map]; simpa using hl)
  rw [dats_map, Trm.ps_map, List.map_map] at mx
  obtain ⟨o, mo, rfl⟩ := List.mem_map.mp mx
  exact h o mo
theorem cap8 {t : Trm} (h : Trm.ok 8 t) : (parts t).length ≤ 9841 ∧ ∀ p ∈ parts t, p.1.length ≤ 8 := by
  obtain ⟨a, b⟩ := spot_len h
  exact ⟨Nat.le_trans b (by decide), a⟩
theorem part_tail {t : Trm} {p : List Nat × Trm} (m : p ∈ partsL 0 t.args) : p.1 ≠ [] := by
  obtain ⟨j, q, e, _⟩ := mem_partsL _ _ p m
  rw [e]; simp
end Pv
namespace Pv
open PySem PySem.Spec L2
/-- a loop that keeps something -/
theorem for_all {gd : Sto → Prop} {g : WG} {tb : WS} {D : EndsP} {I : Envp → Sto → Prop} (hg : ∀ env st, I env st → gd st) (hD : ∀ env st, I env st → D.nx env st) : ∀ (items : List PV) (env : Envp) (st : Sto), I env st →
    (∀ x ∈ items, ∀ env st (K : Envp → Sto → Prop), I env st → (∀ env' st', I env' st' → K env' st') → g x env st fun env2 st2 => tb { D with nx := K, ct := K, bk := D.nx } env2 st2) → forGo gd g tb D items env st
  | [], env, st, i, _ => ⟨hg env st i, hD env st i⟩
  | x :: xs, env, st, i, h => ⟨hg env st i, h x List.mem_cons_self env st _ i fun env' st' i' => for_all hg hD xs env' st' i' fun y m => h y (List.mem_cons_of_mem _ m)⟩
theorem ne_same {a : Str} {st : Sto} {Q : PV → Sto → Prop} (q : Q (.bl false) st) : neA (.str a) (.str a) st Q := by
  rw [r_nes]; simpa using q
theorem eq_same {a : Str} {st : Sto} {Q : PV → Sto → Prop} (q : Q (.bl true) st) : eqA (.str a) (.str a) st Q := by
  rw [r_eqs]; simpa using q
end Pv

/-! PvX: texts of terms. -/
namespace Pv
open PySem PySem.Spec L2
mutual
/-- the signs of a term's text -/
def tx : Trm → List Nat
  | .u s => s.cps.toList
  | .f s as => s.cps.toList ++ txL 40 as
def txL : Nat → List Trm → List Nat
  | sep, [] => if sep = 40 then [] else [41]
  | sep, a :: as => sep :: (tx a ++ txL 44 as)
end
def txS (t : Trm) : Str := ⟨(tx t).toArray⟩
def isLet (c : Nat) : Prop := c ∈ small.cps.toList ∨ c ∈ great.cps.toList
/-- what stands behind a term -/
def Delim (post : List Nat) : Prop := post = [] ∨ ∃ c r, post = c :: r ∧ (c = 41 ∨ c = 44)
/-- what stands behind a word -/
def Stop (post : List Nat) : Prop := ∀ c r, post = c :: r → ¬ isLet c
theorem let_not {c : Nat} (h : isLet c) : c ≠ 40 ∧ c ≠ 41 ∧ c ≠ 44 := by
  have h1 : ∀ c ∈ small.cps.toList, c ≠ 40 ∧ c ≠ 41 ∧ c ≠ 44 := by decide +kernel
  have h2 : ∀ c ∈ great.cps.toList, c ≠ 40 ∧ c ≠ 41 ∧ c ≠ 44 := by decide +kernel
  exact h.elim (h1 c) (h2 c)
theorem small_not_great {c : Nat} (h : c ∈ small.cps.toList) : c ∉ great.cps.toList := by
  have h1 : ∀ c ∈ small.cps.toList, c ∉ great.cps.toList := by decide +kernel
  exact h1 c h
theorem Delim.stop {p : List Nat} (h : Delim p) : Stop p := by
  rintro c r rfl hc
  rcases h with h | ⟨c', r', e, h⟩
  · cases h
  · cases e
    have := let_not hc
    omega
theorem txL_stop {sep : Nat} (hs : sep = 40 ∨ sep = 44) {as : List Trm} {post : List Nat} (h : Delim post) : Stop (txL sep as ++ post) := by
  intro c r e hc
  have hn := let_not hc
  cases as with
  | nil =>
    simp only [txL] at e
    split at e
    · exact h.stop c r e hc
    · simp only [List.cons_append, List.nil_append, List.cons.injEq] at e; omega
  | cons a as =>
    simp only [txL, List.cons_append, List.cons.injEq] at e; omega
theorem txL_delim {as : List Trm} {post : List Nat} : Delim (txL 44 as ++ post) := by
  cases as with
  | nil => exact .inr ⟨41, post, by simp [txL], .inl rfl⟩
  | cons a as => exact .inr ⟨44, _, by simp only [txL, List.cons_append]; rfl, .inr rfl⟩
theorem Spelt.let {L s : Str} (hL : ∀ c ∈ L.cps.toList, isLet c) (h : Spelt L s) : ∀ c ∈ s.cps.toList, isLet c := by
  obtain ⟨c, r, e, h1, h2, _⟩ := h
  intro x m
  rw [e] at m
  rcases List.mem_cons.mp m with rfl | m
  · exact hL _ h1
  · exact .inl (h2 x m)
/-- a word ends where letters end -/
theorem word_eq : ∀ {a b p q : List Nat}, (∀ c ∈ a, isLet c) → (∀ c ∈ b, isLet c) → Stop p → Stop q → a ++ p = b ++ q → a = b ∧ p = q
  | [], [], _, _, _, _, _, _, e => ⟨rfl, e⟩
  | [], y :: b, p, q, _, hb, hp, _, e => absurd (hb y List.mem_cons_self) (hp y (b ++ q) (by simpa using e))
  | x :: a, [], p, q, ha, _, _, hq, e => absurd (ha x List.mem_cons_self) (hq x (a ++ p) (by simpa using e.symm))
  | x :: a, y :: b, p, q, ha, hb, hp, hq, e => by
    simp only [List.cons_append, List.cons.injEq] at e
    obtain ⟨h1, h2⟩ := word_eq (fun c m => ha c (List.mem_cons_of_mem _ m)) (fun c m => hb c (List.mem_cons_of_mem _ m)) hp hq e.2
    exact ⟨by rw [e.1, h1], h2⟩
theorem str_ext {a b : Str} (h : a.cps.toList = b.cps.toList) : a = b := by
  cases a with | mk x => cases b with | mk y => simp only at h; rw [Array.ext' h]
mutual
theorem tx_inj : ∀ {d e : Nat} {t u : Trm} {p q : List Nat}, TOk d t → TOk e u → Delim p → Delim q → tx t ++ p = tx u ++ q → t = u ∧ p = q
  | d, e, .u s, .u r, p, q, h, g, hp, hq, z => by
    have hs := TOk.u.mp h
    have hr := TOk.u.mp g
    obtain ⟨a, b⟩ := word_eq (hs.let fun _ => .inr) (hr.let fun _ => .inr) hp.stop hq.stop z
    exact ⟨by rw [str_ext a], b⟩
  | d, 0, .u s, .f r bs, p, q, h, g, hp, hq, z => g.elim
  | d, e + 1, .u s, .f r bs, p, q, h, g, hp, hq, z => by
    exfalso
    have hs := TOk.u.mp h
    simp only [tx, List.append_assoc] at z
    obtain ⟨a, b⟩ := word_eq (hs.let fun _ => .inr) (g.1.let fun _ => .inl) hp.stop (txL_stop (.inl rfl) hq) z
    obtain ⟨c, w, e1, m1, _⟩ := hs
    obtain ⟨c', w', e2, m2, _⟩ := g.1
    rw [e1, e2, List.cons.injEq] at a
    exact small_not_great (by rw [a.1]; exact m2) m1
  | 0, e, .f s as, .u r, p, q, h, g, hp, hq, z => h.elim
  | d + 1, e, .f s as, .u r, p, q, h, g, hp, hq, z => by
    exfalso
    have hr := TOk.u.mp g
    simp only [tx, List.append_assoc] at z
    obtain ⟨a, b⟩ := word_eq (h.1.let fun _ => .inl) (hr.let fun _ => .inr) (txL_stop (.inl rfl) hp) hq.stop z
    obtain ⟨c, w, e1, m1, _⟩ := hr
    obtain ⟨c', w', e2, m2, _⟩ := h.1
    rw [e1, e2, List.cons.injEq] at a
    exact small_not_great (by rw [← a.1]; exact m2) m1
  | 0, _, .f s as, .f r bs, p, q, h, g, hp, hq, z => h.elim
  | _ + 1, 0, .f s as, .f r bs, p, q, h, g, hp, hq, z => g.elim
  | d + 1, e + 1, .f s as, .f r bs, p, q, h, g, hp, hq, z => by
    simp only [tx, List.append_assoc] at z
    obtain ⟨a, b⟩ := word_eq (h.1.let fun _ => .inl) (g.1.let fun _ => .inl) (txL_stop (.inl rfl) hp) (txL_stop (.inl rfl) hq) z
    obtain ⟨c1, c2⟩ := txL_inj (d := d) (e := e) (.inl rfl) h.2.2 g.2.2 hp hq b
    exact ⟨by rw [str_ext a, c1], c2⟩
theorem txL_inj : ∀ {d e sep : Nat} {as bs : List Trm} {p q : List Nat}, sep = 40 ∨ sep = 44 → (∀ a ∈ as, TOk d a) → (∀ b ∈ bs, TOk e b) → Delim p → Delim q → txL sep as ++ p = txL sep bs ++ q → as = bs ∧ p = q
  | d, e, sep, [], [], p, q, hs, h, g, hp, hq, z => ⟨rfl, List.append_cancel_left z⟩
  | d, e, sep, [], b :: bs, p, q, hs, h, g, hp, hq, z => by
    exfalso
    simp only [txL] at z
    split at z
    · rw [List.nil_append] at z
      rcases hp with hp | ⟨c, r, e1, hp⟩
      · rw [hp] at z; simp at z
      · rw [e1, List.cons_append, List.cons.injEq] at z; omega
    · simp only [List.cons_append, List.cons.injEq] at z; omega
  | d, e, sep, a :: as, [], p, q, hs, h, g, hp, hq, z => by
    exfalso
    simp only [txL] at z
    split at z
    · rw [List.nil_append] at z
      rcases hq with hq | ⟨c, r, e1, hq⟩
      · rw [hq] at z; simp at z
      · rw [e1, List.cons_append, List.cons.injEq] at z; omega
    · simp only [List.cons_append, List.cons.injEq] at z; omega
  | d, e, sep, a :: as, b :: bs, p, q, hs, h, g, hp, hq, z => by
    simp only [txL, List.cons_append, List.append_assoc, List.cons.injEq, true_and] at z
    obtain ⟨c1, c2⟩ := tx_inj (h a List.mem_cons_self) (g b List.mem_cons_self) txL_delim txL_delim z
    obtain ⟨d1, d2⟩ := txL_inj (.inr rfl) (fun x m => h x (List.mem_cons_of_mem _ m)) (fun x m => g x (List.mem_cons_of_mem _ m)) hp hq c2
    exact ⟨by rw [c1, d1], d2⟩
end
theorem txS_inj {d e : Nat} {t u : Trm} (h : TOk d t) (g : TOk e u) : (txS t == txS u) = eqT t u := by
  rw [Bool.eq_iff_iff, beq_iff_eq, eqT_eq]
  refine ⟨fun z => ?_, fun z => by rw [z]⟩
  have := congrArg (fun s : Str => s.cps.toList) z
  simp only [txS, List.toList_toArray] at this
  exact (tx_inj h g (.inl rfl) (.inl rfl) (by rw [this])).1
/-! ### how long -/
theorem tx_pos : ∀ {d : Nat} {t : Trm}, TOk d t → 1 ≤ (tx t).length
  | d, .u s, h => by simp only [tx, len_list]; exact (TOk.u.mp h).len.1
  | 0, .f _ _, h => h.elim
  | d + 1, .f s as, h => by simp only [tx, List.length_append, len_list]; have := h.1.len.1; omega
mutual
theorem tl_tx : ∀ {d : Nat} {t : Trm}, TOk d t → tl (dat t.p) + 2 ≤ 20 * (tx t).length
  | d, .u s, h => by
    have := (TOk.u.mp h).len.1
    simp only [Trm.p, dat, tl, tx, len_list]; omega
  | 0, .f _ _, h => h.elim
  | d + 1, .f s as, h => by
    have h1 := h.1.len.1
    have h2 := tls_tx (sep := 40) h.2.2
    simp only [Trm.p, dat, dats, tl, tls, tx, List.length_append, len_list]
    omega
theorem tls_tx : ∀ {d sep : Nat} {as : List Trm}, (∀ a ∈ as, TOk d a) → tls (dats (Trm.ps as)) ≤ 20 * (txL sep as).length
  | d, sep, [], _ => by simp [Trm.ps, dats, tls]
  | d, sep, a :: as, h => by
    have h1 := tl_tx (h a List.mem_cons_self)
    have h2 := tls_tx (sep := 44) fun x m => h x (List.mem_cons_of_mem _ m)
    simp only [Trm.ps, dats, tls, txL, List.length_cons, List.length_append]
    omega
end
/-- how long is the text of a drawn one -/
def txM : Nat → Nat
  | 0 => 6
  | d + 1 => 3 * txM d + 10
theorem txM_ge : ∀ d, 6 ≤ txM d
  | 0 => Nat.le_refl _
  | d + 1 => by unfold txM; have := txM_ge d; omega
theorem txL_le {m : Nat} : ∀ {sep : Nat} {as : List Trm}, (∀ a ∈ as, (tx a).length ≤ m) → (txL sep as).length ≤ (m + 1) * as.length + 1
  | sep, [], _ => by simp only [txL]; split <;> simp
  | sep, a :: as, h => by
    have h1 := h a List.mem_cons_self
    have h2 := txL_le (sep := 44) fun x m => h x (List.mem_cons_of_mem _ m)
    simp only [txL, List.length_cons, List.length_append, Nat.mul_add]
    rw [Nat.mul_one]; omega
theorem tx_le : ∀ {d : Nat} {t : Trm}, TOk d t → (tx t).length ≤ txM d
  | d, .u s, h => by simp only [tx, len_list]; have := (TOk.u.mp h).len.2; have := txM_ge d; omega
  | 0, .f _ _, h => h.elim
  | d + 1, .f s as, h => by
    have h1 := h.1.len.2
    have h2 := txL_le (sep := 40) fun a m => tx_le (h.2.2 a m)
    have h3 : (txM d + 1) * as.length ≤ (txM d + 1) * 3 := Nat.mul_le_mul_left _ h.2.1
    simp only [tx, List.length_append, len_list]
    unfold txM; omega
theorem tx_lt : ∀ {d : Nat} {t : Trm}, TOk d t → ∀ c ∈ tx t, c < 0x110000
  | d, .u s, h, c, m => ok_mem ((TOk.u.mp h).ok great_ok) m
  | 0, .f _ _, h, _, _ => h.elim
  | d + 1, .f s as, h, c, m => by
    simp only [tx, List.mem_append] at m
    rcases m with m | m
    · exact ok_mem (h.1.ok small_ok) m
    · have : ∀ (sep : Nat), sep < 0x110000 → ∀ as : List Trm, (∀ a ∈ as, TOk d a) → ∀ c ∈ txL sep as, c < 0x110000 := by
        intro sep hs as
        induction as generalizing sep with
        | nil => intro _ c m; simp only [txL] at m; split at m <;> simp at m; omega
        | cons a as ih =>
          intro ha c m
          simp only [txL, List.mem_cons, List.mem_append] at m
          rcases m with rfl | m | m
          · exact hs
          · exact tx_lt (ha a List.mem_cons_self) c m
          · exact ih 44 (by decide) (fun x m => ha x (List.mem_cons_of_mem _ m)) c m
      exact this 40 (by decide) as h.2.2 c m
theorem txS_ok {d : Nat} {t : Trm} (h : TOk d t) : PyData.strOk (txS t) = true := by
  unfold PyData.strOk txS
  rw [Array.all_eq_true_iff_forall_mem]
  intro x m
  simpa using tx_lt h x (by simpa using m)
end Pv

/-! what each def reads as -/
namespace K06
open PySem PySem.Spec L2 Pv
def top (i : Nat) : Stmt := PySem.Challenge.pw_endpapers_k06_terms_written_and_read.main.body.getD i (.Pass ⟨0, 0, 0, 0⟩)
structure Txt (mg : Str → Option Value) : Prop where
  m_all : mg "all" = none
  m_int : mg "int" = none
  m_isinstance : mg "isinstance" = none
  m_len : mg "len" = none
  m_list : mg "list" = none
  m_min : mg "min" = none
  m_range : mg "range" = none
  m_repr : mg "repr" = none
  m_str : mg "str" = none
  m_tuple : mg "tuple" = none
  m_zip : mg "zip" = none
  k_DEEPEST : IsInt mg "DEEPEST" 100
  k_GREAT : IsStr mg "GREAT" "ABCDEFGHIJKLMNOPQRSTUVWXYZ"
  k_LONGEST : IsInt mg "LONGEST" 6
  k_MOST_WITHIN : IsInt mg "MOST_WITHIN" 3
  k_SMALL : IsStr mg "SMALL" "abcdefghijklmnopqrstuvwxyz"
theorem nb_thing : (("thing" : Str) == ("__debug__" : Str)) = false := by decide +kernel
theorem nc_thing : (("thing" : Str) == ("__classdict__" : Str)) = false := by decide +kernel
theorem it_str : "str" ∈ ["bool", "int", "str", "tuple", "list", "dict"] := by decide +kernel
theorem bt_str : bootBuiltins "str" = some (.type "str") := by decide +kernel
theorem nn_str : ("str" : Str) ≠ "__name__" := by decide +kernel
theorem nb_str : (("str" : Str) == ("__debug__" : Str)) = false := by decide +kernel
theorem bt_len : bootBuiltins "len" = some (.builtin "len") := by decide +kernel
theorem nn_len : ("len" : Str) ≠ "__name__" := by decide +kernel
theorem nb_len : (("len" : Str) == ("__debug__" : Str)) = false := by decide +kernel
theorem nb_LONGEST : (("LONGEST" : Str) == ("__debug__" : Str)) = false := by decide +kernel
theorem nb_first : (("first" : Str) == ("__debug__" : Str)) = false := by decide +kernel
theorem nc_first : (("first" : Str) == ("__classdict__" : Str)) = false := by decide +kernel
theorem nb_ahead : (("ahead" : Str) == ("__debug__" : Str)) = false := by decide +kernel
theorem nc_ahead : (("ahead" : Str) == ("__classdict__" : Str)) = false := by decide +kernel
theorem nb_rest : (("rest" : Str) == ("__debug__" : Str)) = false := by decide +kernel
theorem nc_rest : (("rest" : Str) == ("__classdict__" : Str)) = false := by decide +kernel
theorem nb_sign : (("sign" : Str) == ("__debug__" : Str)) = false := by decide +kernel
theorem nc_sign : (("sign" : Str) == ("__classdict__" : Str)) = false := by decide +kernel
theorem nb_SMALL : (("SMALL" : Str) == ("__debug__" : Str)) = false := by decide +kernel
theorem bt_all : bootBuiltins "all" = some (.builtin "all") := by decide +kernel
theorem nn_all : ("all" : Str) ≠ "__name__" := by decide +kernel
theorem nb_all : (("all" : Str) == ("__debug__" : Str)) = false := by decide +kernel
theorem nb_is_spelt : (("is_spelt" : Str) == ("__debug__" : Str)) = false := by decide +kernel
theorem nb_GREAT : (("GREAT" : Str) == ("__debug__" : Str)) = false := by decide +kernel
theorem nb_term : (("term" : Str) == ("__debug__" : Str)) = false := by decide +kernel
theorem nc_term : (("term" : Str) == ("__classdict__" : Str)) = false := by decide +kernel
theorem nb_within : (("within" : Str) == ("__debug__" : Str)) = false := by decide +kernel
theorem nb_one : (("one" : Str) == ("__debug__" : Str)) = false := by decide +kernel
theorem nc_one : (("one" : Str) == ("__classdict__" : Str)) = false := by decide +kernel
theorem nb_show_term : (("show_term" : Str) == ("__debug__" : Str)) = false := by decide +kernel
theorem nb_some : (("some" : Str) == ("__debug__" : Str)) = false := by decide +kernel
theorem nc_some : (("some" : Str) == ("__classdict__" : Str)) = false := by decide +kernel
theorem nb_good : (("good" : Str) == ("__debug__" : Str)) = false := by decide +kernel
theorem nc_good : (("good" : Str) == ("__classdict__" : Str)) = false := by decide +kernel
theorem nb_start : (("start" : Str) == ("__debug__" : Str)) = false := by decide +kernel
theorem nc_start : (("start" : Str) == ("__classdict__" : Str)) = false := by decide +kernel
theorem nb_stop : (("stop" : Str) == ("__debug__" : Str)) = false := by decide +kernel
theorem nc_stop : (("stop" : Str) == ("__classdict__" : Str)) = false := by decide +kernel
theorem nb_text : (("text" : Str) == ("__debug__" : Str)) = false := by decide +kernel
theorem nc_text : (("text" : Str) == ("__classdict__" : Str)) = false := by decide +kernel
theorem nb_deep : (("deep" : Str) == ("__debug__" : Str)) = false := by decide +kernel
theorem nc_deep : (("deep" : Str) == ("__classdict__" : Str)) = false := by decide +kernel
theorem nb_DEEPEST : (("DEEPEST" : Str) == ("__debug__" : Str)) = false := by decide +kernel
theorem nb_must : (("must" : Str) == ("__debug__" : Str)) = false := by decide +kernel
theorem nb_word_end : (("word_end" : Str) == ("__debug__" : Str)) = false := by decide +kernel
theorem nb_word : (("word" : Str) == ("__debug__" : Str)) = false := by decide +kernel
theorem nc_word : (("word" : Str) == ("__classdict__" : Str)) = false := by decide +kernel
theorem nb_is_unknown : (("is_unknown" : Str) == ("__debug__" : Str)) = false := by decide +kernel
theorem nb_is_name : (("is_name" : Str) == ("__debug__" : Str)) = false := by decide +kernel
theorem nb_MOST_WITHIN : (("MOST_WITHIN" : Str) == ("__debug__" : Str)) = false := by decide +kernel
theorem nb_term_from : (("term_from" : Str) == ("__debug__" : Str)) = false := by decide +kernel
theorem bt_tuple : bootBuiltins "tuple" = some (.type "tuple") := by decide +kernel
theorem nn_tuple : ("tuple" : Str) ≠ "__name__" := by decide +kernel
theorem nb_tuple : (("tuple" : Str) == ("__debug__" : Str)) = false := by decide +kernel
theorem nb__law_cell : (("_law_cell" : Str) == ("__debug__" : Str)) = false := by decide +kernel
theorem nc__law_cell : (("_law_cell" : Str) == ("__classdict__" : Str)) = false := by decide +kernel
theorem bt_int : bootBuiltins "int" = some (.type "int") := by decide +kernel
theorem nn_int : ("int" : Str) ≠ "__name__" := by decide +kernel
theorem nb_int : (("int" : Str) == ("__debug__" : Str)) = false := by decide +kernel
theorem nb__law_deck_here : (("_law_deck_here" : Str) == ("__debug__" : Str)) = false := by decide +kernel
theorem nc__law_deck_here : (("_law_deck_here" : Str) == ("__classdict__" : Str)) = false := by decide +kernel
theorem nb__law_bound : (("_law_bound" : Str) == ("__debug__" : Str)) = false := by decide +kernel
theorem nc__law_bound : (("_law_bound" : Str) == ("__classdict__" : Str)) = false := by decide +kernel
theorem nb__law_got : (("_law_got" : Str) == ("__debug__" : Str)) = false := by decide +kernel
theorem nc__law_got : (("_law_got" : Str) == ("__classdict__" : Str)) = false := by decide +kernel
theorem nb__law_mixed : (("_law_mixed" : Str) == ("__debug__" : Str)) = false := by decide +kernel
theorem nc__law_mixed : (("_law_mixed" : Str) == ("__classdict__" : Str)) = false := by decide +kernel
theorem nb__law_some : (("_law_some" : Str) == ("__debug__" : Str)) = false := by decide +kernel
theorem nc__law_some : (("_law_some" : Str) == ("__classdict__" : Str)) = false := by decide +kernel
theorem nb__law_draw : (("_law_draw" : Str) == ("__debug__" : Str)) = false := by decide +kernel
theorem nb__law_letters : (("_law_letters" : Str) == ("__debug__" : Str)) = false := by decide +kernel
theorem nc__law_letters : (("_law_letters" : Str) == ("__classdict__" : Str)) = false := by decide +kernel
theorem nb__law_many : (("_law_many" : Str) == ("__debug__" : Str)) = false := by decide +kernel
theorem nc__law_many : (("_law_many" : Str) == ("__classdict__" : Str)) = false := by decide +kernel
theorem nb__law_small : (("_law_small" : Str) == ("__debug__" : Str)) = false := by decide +kernel
theorem nc__law_small : (("_law_small" : Str) == ("__classdict__" : Str)) = false := by decide +kernel
theorem nb__law_spelt : (("_law_spelt" : Str) == ("__debug__" : Str)) = false := by decide +kernel
theorem nb__law_way : (("_law_way" : Str) == ("__debug__" : Str)) = false := by decide +kernel
theorem nc__law_way : (("_law_way" : Str) == ("__classdict__" : Str)) = false := by decide +kernel
theorem nb__law_word : (("_law_word" : Str) == ("__debug__" : Str)) = false := by decide +kernel
theorem nc__law_word : (("_law_word" : Str) == ("__classdict__" : Str)) = false := by decide +kernel
theorem bt_min : bootBuiltins "min" = some (.builtin "min") := by decide +kernel
theorem nn_min : ("min" : Str) ≠ "__name__" := by decide +kernel
theorem nb_min : (("min" : Str) == ("__debug__" : Str)) = false := by decide +kernel
theorem nb__law_base : (("_law_base" : Str) == ("__debug__" : Str)) = false := by decide +kernel
theorem nc__law_base : (("_law_base" : Str) == ("__classdict__" : Str)) = false := by decide +kernel
theorem nb__law_k : (("_law_k" : Str) == ("__debug__" : Str)) = false := by decide +kernel
theorem nc__law_k : (("_law_k" : Str) == ("__classdict__" : Str)) = false := by decide +kernel
theorem nb__law_at : (("_law_at" : Str) == ("__debug__" : Str)) = false := by decide +kernel
theorem nc__law_at : (("_law_at" : Str) == ("__classdict__" : Str)) = false := by decide +kernel
theorem nb__law_row : (("_law_row" : Str) == ("__debug__" : Str)) = false := by decide +kernel
theorem nc__law_row : (("_law_row" : Str) == ("__classdict__" : Str)) = false := by decide +kernel
theorem nb__law_first : (("_law_first" : Str) == ("__debug__" : Str)) = false := by decide +kernel
theorem nc__law_first : (("_law_first" : Str) == ("__classdict__" : Str)) = false := by decide +kernel
theorem nb__law_unlike : (("_law_unlike" : Str) == ("__debug__" : Str)) = false := by decide +kernel
theorem nb__law_names : (("_law_names" : Str) == ("__debug__" : Str)) = false := by decide +kernel
theorem nc__law_names : (("_law_names" : Str) == ("__classdict__" : Str)) = false := by decide +kernel
theorem nb__law_counts : (("_law_counts" : Str) == ("__debug__" : Str)) = false := by decide +kernel
theorem nc__law_counts : (("_law_counts" : Str) == ("__classdict__" : Str)) = false := by decide +kernel
theorem nb__law_left : (("_law_left" : Str) == ("__debug__" : Str)) = false := by decide +kernel
theorem nc__law_left : (("_law_left" : Str) == ("__classdict__" : Str)) = false := by decide +kernel
theorem nb__law_pool_here : (("_law_pool_here" : Str) == ("__debug__" : Str)) = false := by decide +kernel
theorem nc__law_pool_here : (("_law_pool_here" : Str) == ("__classdict__" : Str)) = false := by decide +kernel
theorem nb__law_sign : (("_law_sign" : Str) == ("__debug__" : Str)) = false := by decide +kernel
theorem nc__law_sign : (("_law_sign" : Str) == ("__classdict__" : Str)) = false := by decide +kernel
theorem nb__law_deep : (("_law_deep" : Str) == ("__debug__" : Str)) = false := by decide +kernel
theorem nc__law_deep : (("_law_deep" : Str) == ("__classdict__" : Str)) = false := by decide +kernel
theorem nb__law_unknowns : (("_law_unknowns" : Str) == ("__debug__" : Str)) = false := by decide +kernel
theorem nc__law_unknowns : (("_law_unknowns" : Str) == ("__classdict__" : Str)) = false := by decide +kernel
theorem nb__law_pick : (("_law_pick" : Str) == ("__debug__" : Str)) = false := by decide +kernel
theorem nb__law_name : (("_law_name" : Str) == ("__debug__" : Str)) = false := by decide +kernel
theorem nc__law_name : (("_law_name" : Str) == ("__classdict__" : Str)) = false := by decide +kernel
theorem nb__law_found : (("_law_found" : Str) == ("__debug__" : Str)) = false := by decide +kernel
theorem nc__law_found : (("_law_found" : Str) == ("__classdict__" : Str)) = false := by decide +kernel
theorem nb__law_term : (("_law_term" : Str) == ("__debug__" : Str)) = false := by decide +kernel
theorem nb__law_great : (("_law_great" : Str) == ("__debug__" : Str)) = false := by decide +kernel
theorem nc__law_great : (("_law_great" : Str) == ("__classdict__" : Str)) = false := by decide +kernel
theorem nb__law_term_here : (("_law_term_here" : Str) == ("__debug__" : Str)) = false := by decide +kernel
theorem nc__law_term_here : (("_law_term_here" : Str) == ("__classdict__" : Str)) = false := by decide +kernel
theorem nb__law_one : (("_law_one" : Str) == ("__debug__" : Str)) = false := by decide +kernel
theorem nc__law_one : (("_law_one" : Str) == ("__classdict__" : Str)) = false := by decide +kernel
theorem nb__law_text : (("_law_text" : Str) == ("__debug__" : Str)) = false := by decide +kernel
theorem nb__law_inner : (("_law_inner" : Str) == ("__debug__" : Str)) = false := by decide +kernel
theorem nc__law_inner : (("_law_inner" : Str) == ("__classdict__" : Str)) = false := by decide +kernel
theorem nb__law_a : (("_law_a" : Str) == ("__debug__" : Str)) = false := by decide +kernel
theorem nc__law_a : (("_law_a" : Str) == ("__classdict__" : Str)) = false := by decide +kernel
theorem nb__law_wide : (("_law_wide" : Str) == ("__debug__" : Str)) = false := by decide +kernel
theorem nc__law_wide : (("_law_wide" : Str) == ("__classdict__" : Str)) = false := by decide +kernel
theorem nb__law_t : (("_law_t" : Str) == ("__debug__" : Str)) = false := by decide +kernel
theorem nc__law_t : (("_law_t" : Str) == ("__classdict__" : Str)) = false := by decide +kernel
theorem nb__law_s : (("_law_s" : Str) == ("__debug__" : Str)) = false := by decide +kernel
theorem nc__law_s : (("_law_s" : Str) == ("__classdict__" : Str)) = false := by decide +kernel
theorem bt_repr : bootBuiltins "repr" = some (.builtin "repr") := by decide +kernel
theorem nn_repr : ("repr" : Str) ≠ "__name__" := by decide +kernel
theorem nb_repr : (("repr" : Str) == ("__debug__" : Str)) = false := by decide +kernel
theorem nb__law_text_here : (("_law_text_here" : Str) == ("__debug__" : Str)) = false := by decide +kernel
theorem nc__law_text_here : (("_law_text_here" : Str) == ("__classdict__" : Str)) = false := by decide +kernel
theorem nb_read_term : (("read_term" : Str) == ("__debug__" : Str)) = false := by decide +kernel
theorem nb__law_kept : (("_law_kept" : Str) == ("__debug__" : Str)) = false := by decide +kernel
theorem nc__law_kept : (("_law_kept" : Str) == ("__classdict__" : Str)) = false := by decide +kernel
theorem nb__law_script : (("_law_script" : Str) == ("__debug__" : Str)) = false := by decide +kernel
theorem nc__law_script : (("_law_script" : Str) == ("__classdict__" : Str)) = false := by decide +kernel
theorem nb__law_deck : (("_law_deck" : Str) == ("__debug__" : Str)) = false := by decide +kernel
theorem nb__law_pool : (("_law_pool" : Str) == ("__debug__" : Str)) = false := by decide +kernel
theorem nb__law_some_term : (("_law_some_term" : Str) == ("__debug__" : Str)) = false := by decide +kernel
theorem nb__law_right : (("_law_right" : Str) == ("__debug__" : Str)) = false := by decide +kernel
theorem nb__law_other : (("_law_other" : Str) == ("__debug__" : Str)) = false := by decide +kernel
theorem nc__law_other : (("_law_other" : Str) == ("__classdict__" : Str)) = false := by decide +kernel
theorem nb__law_great_terms : (("_law_great_terms" : Str) == ("__debug__" : Str)) = false := by decide +kernel
theorem nb__law_told : (("_law_told" : Str) == ("__debug__" : Str)) = false := by decide +kernel
theorem nc__law_told : (("_law_told" : Str) == ("__classdict__" : Str)) = false := by decide +kernel
abbrev F_is_spelt : Nat := 0
abbrev F_is_name : Nat := 1
abbrev F_is_unknown : Nat := 2
abbrev F_within : Nat := 3
abbrev F_show_term : Nat := 4
abbrev F_must : Nat := 5
abbrev F_word_end : Nat := 6
abbrev F_term_from : Nat := 7
abbrev F_read_term : Nat := 8
abbrev F_law_deck : Nat := 9
abbrev F_law_draw : Nat := 10
abbrev F_law_pick : Nat := 11
abbrev F_law_spelt : Nat := 12
abbrev F_law_unlike : Nat := 13
abbrev F_law_pool : Nat := 14
abbrev F_law_term : Nat := 15
abbrev F_law_some_term : Nat := 16
abbrev F_law_text : Nat := 17
abbrev F_law_great_terms : Nat := 18
abbrev F_law_right : Nat := 19
abbrev F_law : Nat := 20
section
variable {P : Program} {w : World} {K : PySem.W.Frag} {mg : Str → Option Value} {base : Heap}
/-! is spelt -/
abbrev s_is_spelt : Stmt := top 8
theorem sc_is_spelt : FnScope ["thing", "ahead", "first", "rest", "sign"] ["thing", "ahead"] (defScope s_is_spelt) := ⟨rfl, rfl, rfl, by decide +kernel, rfl, by decide +kernel, by decide +kernel⟩
theorem v_is_spelt_0 : Vis (defScope s_is_spelt) "thing" := Or.inl (by decide +kernel)
theorem g_is_spelt_isinstance : (defScope s_is_spelt).names.lookup ("isinstance" : Str) = some NameKind.globalImplicit := by decide +kernel
theorem g_is_spelt_str : (defScope s_is_spelt).names.lookup ("str" : Str) = some NameKind.globalImplicit := by decide +kernel
theorem g_is_spelt_len : (defScope s_is_spelt).names.lookup ("len" : Str) = some NameKind.globalImplicit := by decide +kernel
theorem g_is_spelt_LONGEST : (defScope s_is_spelt).names.lookup ("LONGEST" : Str) = some NameKind.globalImplicit := by decide +kernel
theorem l_is_spelt_3 : Loc (defScope s_is_spelt) "rest" := Or.inl (by decide +kernel)
theorem l_is_spelt_2 : Loc (defScope s_is_spelt) "first" := Or.inl (by decide +kernel)
theorem v_is_spelt_2 : Vis (defScope s_is_spelt) "first" := Or.inl (by decide +kernel)
theorem v_is_spelt_1 : Vis (defScope s_is_spelt) "ahead" := Or.inl (by decide +kernel)
theorem v_is_spelt_3 : Vis (defScope s_is_spelt) "rest" := Or.inl (by decide +kernel)
theorem g_is_spelt_all : (defScope s_is_spelt).names.lookup ("all" : Str) = some NameKind.globalImplicit := by decide +kernel
def w_is_spelt : WS :=
  (sSeq (sIf (tOrP (tNotP (tTru (wIsi "str" (wVar 0)))) (tNotP (tChainP leR leR (wC (.int 1)) (wCa lenR (wCons (wVar 0) wNil)) (wC (.int 6))))) (sRet (wC (.bl false))) sNext)
  (sSeq (sAsg (wVar 0) (gStar false 2 1 (gCn (gNm 2) (gCn (gNm 3) gNl))))
  (sRet (wAndT (wOp inSR (wVar 2) (wVar 1)) (wCa allR (wCons (wLc false (iVal (wVar 3)) (gNm 4) tYesP (wOp inSR (wVar 4) (wC (.str "abcdefghijklmnopqrstuvwxyz"))) [4]) wNil))))))
def q_is_spelt : QS :=
  (.seq (.ite (.or (.not (.tru (.isi "str" (.var 0)))) (.not (.chain .le .le (.cst (.int 1)) (.ca .len (.cons (.var 0) .nil)) (.cst (.int 6))))) (.ret (.cst (.bl false))) .next) (.seq (.asg (.var 0) (.star false 2 1 (.cons (.nm 2) (.cons (.nm 3) .nil)))) (.ret (.andV (.op .inS (.var 2) (.var 1)) (.ca .all (.cons (.lc false (.val (.var 3)) (.nm 4) .yes (.op .inS (.var 4) (.cst (.str "abcdefghijklmnopqrstuvwxyz"))) [4]) .nil))))))
theorem qd_is_spelt (φ : Nat → Spc) : q_is_spelt.den φ = w_is_spelt := rfl
theorem ok_is_spelt {S : Spc} {k : Nat} {f : Addr} {fd : FuncData} (F : Fun K "is_spelt" "is_spelt" s_is_spelt f fd) (T : Txt mg) 
    (hS : ∀ xs sto Q, xs.length = 2 → S xs sto Q → w_is_spelt  { nx := fun _ st' => Q .non st', rt := Q } (startP ["thing", "ahead", "first", "rest", "sign"] xs) sto) : FnG P w K mg base (k + 1) f fd ["thing", "ahead"] (spOf K 2 S) :=
  fn_ok F sc_is_spelt rfl (fun cdv A outer s H G =>
    (ds_cons (ds_if (dt_w (dw_or (dt_not (dt_tru (d_isi it_str g_is_spelt_isinstance T.m_isinstance g_is_spelt_str T.m_str bt_str (dv 0 rfl v_is_spelt_0 nb_thing nc_thing) nn_str nb_str))) (dw_or1 (dt_not (dt_chain dop_le dop_le d_int (d_callB dca_len g_is_spelt_len T.m_len bt_len (da_cons (dv 0 rfl v_is_spelt_0 nb_thing nc_thing) da_nil) nn_len nb_len) (d_gInt T.k_LONGEST g_is_spelt_LONGEST nb_LONGEST)))))) (ds_one (ds_ret d_bl)) ds_nil)
    (ds_cons (ds_asg (dv 0 rfl v_is_spelt_0 nb_thing nc_thing) (dg_star false _ 2 1 G.calm (dgs_cons (dg_name (i := 2) sc_is_spelt.nd rfl l_is_spelt_2 (Or.inl rfl)) (dgs_cons (dg_name (i := 3) sc_is_spelt.nd rfl l_is_spelt_3 (Or.inl rfl)) dgs_nil))))
    (ds_one (ds_ret (d_and (d_cmp dop_inS (dv 2 rfl v_is_spelt_2 nb_first nc_first) (dv 1 rfl v_is_spelt_1 nb_ahead nc_ahead) (mark_no rfl)) (d_one (d_callB (dca_all G.calm) g_is_spelt_all T.m_all bt_all (da_cons (d_lc false G.calm sc_is_spelt.nd (di_val (dv 3 rfl v_is_spelt_3 nb_rest nc_rest)) (blkOk_by (N := ["thing", "ahead", "first", "rest", "sign"]) (sc := defScope s_is_spelt) (own := [("sign", 4)]) (by decide +kernel)) (fun _ _ _ _ _ => (dg_name (i := 4) sc_is_spelt.nd rfl (by first | exact loc_blk (Or.inl (by decide +kernel)) | exact loc_blk (Or.inr (by decide +kernel))) (by first | exact fl_blk (by decide +kernel) | exact fc_blk (by decide +kernel)))) (by decide) (fun _ _ _ _ _ => dts_nil) (fun _ _ _ _ _ => (d_cmp dop_inS (dv 4 rfl (by first | exact vis_blk (Or.inl (by decide +kernel)) | exact vis_blk (Or.inr (Or.inl (by decide +kernel))) | exact vis_blk (Or.inr (Or.inr (by decide +kernel)))) nb_sign nc_sign) (d_gStr T.k_SMALL (gl_blk (by decide +kernel)) nb_SMALL) (mark_no rfl)))) da_nil) nn_all nb_all)))))))) hS
/-! is name -/
abbrev s_is_name : Stmt := top 9
theorem sc_is_name : FnScope ["thing"] ["thing"] (defScope s_is_name) := ⟨rfl, rfl, rfl, by decide +kernel, rfl, by decide +kernel, by decide +kernel⟩
theorem v_is_name_0 : Vis (defScope s_is_name) "thing" := Or.inl (by decide +kernel)
theorem g_is_name_SMALL : (defScope s_is_name).names.lookup ("SMALL" : Str) = some NameKind.globalImplicit := by decide +kernel
theorem g_is_name_is_spelt : (defScope s_is_name).names.lookup ("is_spelt" : Str) = some NameKind.globalImplicit := by decide +kernel
def w_is_name (S_is_spelt : Spc) : WS :=
  (sRet (wCall 2 S_is_spelt (wCons (wVar 0) (wCons (wC (.str "abcdefghijklmnopqrstuvwxyz")) wNil))))
def q_is_name : QS :=
  (.ret (.call 2 F_is_spelt (.cons (.var 0) (.cons (.cst (.str "abcdefghijklmnopqrstuvwxyz")) .nil))))
theorem qd_is_name (φ : Nat → Spc) : q_is_name.den φ = w_is_name (φ F_is_spelt) := rfl
theorem ok_is_name {S_is_spelt : Spc} {S : Spc} {k : Nat} {f : Addr} {fd : FuncData} (F : Fun K "is_name" "is_name" s_is_name f fd) (T : Txt mg) (C_is_spelt : Callee P w K mg base k "is_spelt" 2 S_is_spelt)
    (hS : ∀ xs sto Q, xs.length = 1 → S xs sto Q → w_is_name S_is_spelt { nx := fun _ st' => Q .non st', rt := Q } (startP ["thing"] xs) sto) : FnG P w K mg base (k + 1) f fd ["thing"] (spOf K 1 S) :=
  fn_ok F sc_is_name rfl (fun cdv A outer s H G =>
    (ds_one (ds_ret (d_callC C_is_spelt G (da_cons (dv 0 rfl v_is_name_0 nb_thing nc_thing) (da_cons (d_gStr T.k_SMALL g_is_name_SMALL nb_SMALL) da_nil)) g_is_name_is_spelt nb_is_spelt)))) hS
/-! is unknown -/
abbrev s_is_unknown : Stmt := top 10
theorem sc_is_unknown : FnScope ["thing"] ["thing"] (defScope s_is_unknown) := ⟨rfl, rfl, rfl, by decide +kernel, rfl, by decide +kernel, by decide +kernel⟩
theorem v_is_unknown_0 : Vis (defScope s_is_unknown) "thing" := Or.inl (by decide +kernel)
theorem g_is_unknown_GREAT : (defScope s_is_unknown).names.lookup ("GREAT" : Str) = some NameKind.globalImplicit := by decide +kernel
theorem g_is_unknown_is_spelt : (defScope s_is_unknown).names.lookup ("is_spelt" : Str) = some NameKind.globalImplicit := by decide +kernel
def w_is_unknown (S_is_spelt : Spc) : WS :=
  (sRet (wCall 2 S_is_spelt (wCons (wVar 0) (wCons (wC (.str "ABCDEFGHIJKLMNOPQRSTUVWXYZ")) wNil))))
def q_is_unknown : QS :=
  (.ret (.call 2 F_is_spelt (.cons (.var 0) (.cons (.cst (.str "ABCDEFGHIJKLMNOPQRSTUVWXYZ")) .nil))))
theorem qd_is_unknown (φ : Nat → Spc) : q_is_unknown.den φ = w_is_unknown (φ F_is_spelt) := rfl
theorem ok_is_unknown {S_is_spelt : Spc} {S : Spc} {k : Nat} {f : Addr} {fd : FuncData} (F : Fun K "is_unknown" "is_unknown" s_is_unknown f fd) (T : Txt mg) (C_is_spelt : Callee P w K mg base k "is_spelt" 2 S_is_spelt)
    (hS : ∀ xs sto Q, xs.length = 1 → S xs sto Q → w_is_unknown S_is_spelt { nx := fun _ st' => Q .non st', rt := Q } (startP ["thing"] xs) sto) : FnG P w K mg base (k + 1) f fd ["thing"] (spOf K 1 S) :=
  fn_ok F sc_is_unknown rfl (fun cdv A outer s H G =>
    (ds_one (ds_ret (d_callC C_is_spelt G (da_cons (dv 0 rfl v_is_unknown_0 nb_thing nc_thing) (da_cons (d_gStr T.k_GREAT g_is_unknown_GREAT nb_GREAT) da_nil)) g_is_unknown_is_spelt nb_is_spelt)))) hS
/-! within -/
abbrev s_within : Stmt := top 11
theorem sc_within : FnScope ["term"] ["term"] (defScope s_within) := ⟨rfl, rfl, rfl, by decide +kernel, rfl, by decide +kernel, by decide +kernel⟩
theorem v_within_0 : Vis (defScope s_within) "term" := Or.inl (by decide +kernel)
theorem g_within_isinstance : (defScope s_within).names.lookup ("isinstance" : Str) = some NameKind.globalImplicit := by decide +kernel
theorem g_within_str : (defScope s_within).names.lookup ("str" : Str) = some NameKind.globalImplicit := by decide +kernel
def w_within : WS :=
  (sSeq (sIf (tTru (wIsi "str" (wVar 0))) (sRet (wTup wNil)) sNext)
  (sRet (wSl false (wVar 0) (oSo (wC (.int 1))) oNo)))
def q_within : QS :=
  (.seq (.ite (.tru (.isi "str" (.var 0))) (.ret (.tup .nil)) .next) (.ret (.sl false (.var 0) (.so (.cst (.int 1))) .no)))
theorem qd_within (φ : Nat → Spc) : q_within.den φ = w_within := rfl
theorem ok_within {S : Spc} {k : Nat} {f : Addr} {fd : FuncData} (F : Fun K "within" "within" s_within f fd) (T : Txt mg) 
    (hS : ∀ xs sto Q, xs.length = 1 → S xs sto Q → w_within  { nx := fun _ st' => Q .non st', rt := Q } (startP ["term"] xs) sto) : FnG P w K mg base (k + 1) f fd ["term"] (spOf K 1 S) :=
  fn_ok F sc_within rfl (fun cdv A outer s H G =>
    (ds_cons (ds_if (dt_tru (d_isi it_str g_within_isinstance T.m_isinstance g_within_str T.m_str bt_str (dv 0 rfl v_within_0 nb_term nc_term) nn_str nb_str)) (ds_one (ds_ret (d_tup da_nil))) ds_nil)
    (ds_one (ds_ret (d_slice false (dv 0 rfl v_within_0 nb_term nc_term) (do_so d_int) do_no))))) hS
/-! show term -/
abbrev s_show_term : Stmt := top 14
theorem sc_show_term : FnScope ["term", "some", "one"] ["term"] (defScope s_show_term) := ⟨rfl, rfl, rfl, by decide +kernel, rfl, by decide +kernel, by decide +kernel⟩
theorem v_show_term_0 : Vis (defScope s_show_term) "term" := Or.inl (by decide +kernel)
theorem g_show_term_isinstance : (defScope s_show_term).names.lookup ("isinstance" : Str) = some NameKind.globalImplicit := by decide +kernel
theorem g_show_term_str : (defScope s_show_term).names.lookup ("str" : Str) = some NameKind.globalImplicit := by decide +kernel
theorem g_show_term_within : (defScope s_show_term).names.lookup ("within" : Str) = some NameKind.globalImplicit := by decide +kernel
theorem o_show_term_1 : (defScope s_show_term).names.lookup ("some" : Str) = some NameKind.local := by decide +kernel
theorem v_show_term_1 : Vis (defScope s_show_term) "some" := Or.inl (by decide +kernel)
def w_show_term (S_within S_show_term : Spc) : WS :=
  (sSeq (sIf (tTru (wIsi "str" (wVar 0))) (sRet (wVar 0)) sNext)
  (sSeq (sAsg (wLc false (iVal (wCall 1 S_within (wCons (wVar 0) wNil))) (gNm 2) tYesP (wCall 1 S_show_term (wCons (wVar 2) wNil)) [2]) (gNm 1))
  (sSeq (sIf (tValP (wOp eqA (wVar 1) (wLst false wNil))) (sRet (wOp ixR (wVar 0) (wC (.int 0)))) sNext)
  (sRet (wOp (addR false) (wOp (addR false) (wOp (addR false) (wOp ixR (wVar 0) (wC (.int 0))) (wC (.str "("))) (wM "str" joinR (wC (.str ",")) (wCons (wVar 1) wNil))) (wC (.str ")")))))))
def q_show_term : QS :=
  (.seq (.ite (.tru (.isi "str" (.var 0))) (.ret (.var 0)) .next) (.seq (.asg (.lc false (.val (.call 1 F_within (.cons (.var 0) .nil))) (.nm 2) .yes (.call 1 F_show_term (.cons (.var 2) .nil)) [2]) (.nm 1)) (.seq (.ite (.val (.op .eq (.var 1) (.lst false .nil))) (.ret (.op .ix (.var 0) (.cst (.int 0)))) .next) (.ret (.op (.add false) (.op (.add false) (.op (.add false) (.op .ix (.var 0) (.cst (.int 0))) (.cst (.str "("))) (.mt "str" .join (.cst (.str ",")) (.cons (.var 1) .nil))) (.cst (.str ")")))))))
theorem qd_show_term (φ : Nat → Spc) : q_show_term.den φ = w_show_term (φ F_within) (φ F_show_term) := rfl
theorem ok_show_term {S_within S_show_term : Spc} {S : Spc} {k : Nat} {f : Addr} {fd : FuncData} (F : Fun K "show_term" "show_term" s_show_term f fd) (T : Txt mg) (C_within : Callee P w K mg base k "within" 1 S_within) (C_show_term : Callee P w K mg base k "show_term" 1 S_show_term)
    (hS : ∀ xs sto Q, xs.length = 1 → S xs sto Q → w_show_term S_within S_show_term { nx := fun _ st' => Q .non st', rt := Q } (startP ["term", "some", "one"] xs) sto) : FnG P w K mg base (k + 1) f fd ["term"] (spOf K 1 S) :=
  fn_ok F sc_show_term rfl (fun cdv A outer s H G =>
    (ds_cons (ds_if (dt_tru (d_isi it_str g_show_term_isinstance T.m_isinstance g_show_term_str T.m_str bt_str (dv 0 rfl v_show_term_0 nb_term nc_term) nn_str nb_str)) (ds_one (ds_ret (dv 0 rfl v_show_term_0 nb_term nc_term))) ds_nil)
    (ds_cons (ds_setLc false (i := 1) G.calm sc_show_term.nd rfl o_show_term_1 (by rfl) (di_val (d_callC C_within G (da_cons (dv 0 rfl v_show_term_0 nb_term nc_term) da_nil) g_show_term_within nb_within)) (blkOk_by (N := ["term", "some", "one"]) (sc := defScope s_show_term) (own := [("one", 2)]) (by decide +kernel)) (fun _ _ _ _ _ => (dg_name (i := 2) sc_show_term.nd rfl (by first | exact loc_blk (Or.inl (by decide +kernel)) | exact loc_blk (Or.inr (by decide +kernel))) (by first | exact fl_blk (by decide +kernel) | exact fc_blk (by decide +kernel)))) (by decide) (fun _ _ _ _ _ => dts_nil) (fun _ _ _ _ _ => (d_callC C_show_term (xgb G) (da_cons (dv 2 rfl (by first | exact vis_blk (Or.inl (by decide +kernel)) | exact vis_blk (Or.inr (Or.inl (by decide +kernel))) | exact vis_blk (Or.inr (Or.inr (by decide +kernel)))) nb_one nc_one) da_nil) (gl_blk (by decide +kernel)) nb_show_term)))
    (ds_cons (ds_if (dt_cmp (dop_eqA G) (dv 1 rfl v_show_term_1 nb_some nc_some) (d_lst false da_nil) (mark_no rfl)) (ds_one (ds_ret (d_ix (dv 0 rfl v_show_term_0 nb_term nc_term) d_int))) ds_nil)
    (ds_one (ds_ret (d_op (dop_add false) (d_op (dop_add false) (d_op (dop_add false) (d_ix (dv 0 rfl v_show_term_0 nb_term nc_term) d_int) d_str) (d_m PySem.F.plainAttrs_str PySem.F.slot_str_join PySem.F.type_str_join dm_join d_str (da_cons (dv 1 rfl v_show_term_1 nb_some nc_some) da_nil))) d_str))))))) hS
/-! must -/
abbrev s_must : Stmt := top 15
theorem sc_must : FnScope ["good"] ["good"] (defScope s_must) := ⟨rfl, rfl, rfl, by decide +kernel, rfl, by decide +kernel, by decide +kernel⟩
theorem v_must_0 : Vis (defScope s_must) "good" := Or.inl (by decide +kernel)
def w_must : WS :=
  (sIf (tNotP (tTru (wVar 0))) sNever sNext)
def q_must : QS :=
  (.ite (.not (.tru (.var 0))) .never .next)
theorem qd_must (φ : Nat → Spc) : q_must.den φ = w_must := rfl
theorem ok_must {S : Spc} {k : Nat} {f : Addr} {fd : FuncData} (F : Fun K "must" "must" s_must f fd) (T : Txt mg) 
    (hS : ∀ xs sto Q, xs.length = 1 → S xs sto Q → w_must  { nx := fun _ st' => Q .non st', rt := Q } (startP ["good"] xs) sto) : FnG P w K mg base (k + 1) f fd ["good"] (spOf K 1 S) :=
  fn_ok F sc_must rfl (fun cdv A outer s H G =>
    (ds_one (ds_if (dt_not (dt_tru (dv 0 rfl v_must_0 nb_good nc_good))) (ds_one ds_never) ds_nil))) hS
/-! word end -/
abbrev s_word_end : Stmt := top 16
theorem sc_word_end : FnScope ["text", "start", "stop"] ["text", "start"] (defScope s_word_end) := ⟨rfl, rfl, rfl, by decide +kernel, rfl, by decide +kernel, by decide +kernel⟩
theorem v_word_end_1 : Vis (defScope s_word_end) "start" := Or.inl (by decide +kernel)
theorem l_word_end_2 : Loc (defScope s_word_end) "stop" := Or.inl (by decide +kernel)
theorem v_word_end_2 : Vis (defScope s_word_end) "stop" := Or.inl (by decide +kernel)
theorem v_word_end_0 : Vis (defScope s_word_end) "text" := Or.inl (by decide +kernel)
theorem g_word_end_len : (defScope s_word_end).names.lookup ("len" : Str) = some NameKind.globalImplicit := by decide +kernel
theorem g_word_end_SMALL : (defScope s_word_end).names.lookup ("SMALL" : Str) = some NameKind.globalImplicit := by decide +kernel
theorem g_word_end_GREAT : (defScope s_word_end).names.lookup ("GREAT" : Str) = some NameKind.globalImplicit := by decide +kernel
def w_word_end : WS :=
  (sSeq (sAsg (wVar 1) (gNm 2))
  (sSeq (sWhile (tAndP (tValP (wOp ltR (wVar 2) (wCa lenR (wCons (wVar 0) wNil)))) (tValP (wOp inSR (wOp ixR (wVar 0) (wVar 2)) (wOp (addR false) (wC (.str "abcdefghijklmnopqrstuvwxyz")) (wC (.str "ABCDEFGHIJKLMNOPQRSTUVWXYZ"))))))
    (sAsg (wOp iaddR (wVar 2) (wC (.int 1))) (gNm 2)))
  (sRet (wVar 2))))
def q_word_end : QS :=
  (.seq (.asg (.var 1) (.nm 2)) (.seq (.while (.and (.val (.op .lt (.var 2) (.ca .len (.cons (.var 0) .nil)))) (.val (.op .inS (.op .ix (.var 0) (.var 2)) (.op (.add false) (.cst (.str "abcdefghijklmnopqrstuvwxyz")) (.cst (.str "ABCDEFGHIJKLMNOPQRSTUVWXYZ")))))) (.asg (.op .iadd (.var 2) (.cst (.int 1))) (.nm 2))) (.ret (.var 2))))
theorem qd_word_end (φ : Nat → Spc) : q_word_end.den φ = w_word_end := rfl
theorem ok_word_end {S : Spc} {k : Nat} {f : Addr} {fd : FuncData} (F : Fun K "word_end" "word_end" s_word_end f fd) (T : Txt mg) 
    (hS : ∀ xs sto Q, xs.length = 2 → S xs sto Q → w_word_end  { nx := fun _ st' => Q .non st', rt := Q } (startP ["text", "start", "stop"] xs) sto) : FnG P w K mg base (k + 1) f fd ["text", "start"] (spOf K 2 S) :=
  fn_ok F sc_word_end rfl (fun cdv A outer s H G =>
    (ds_cons (ds_set (i := 2) sc_word_end.nd rfl l_word_end_2 (dv 1 rfl v_word_end_1 nb_start nc_start) (by exact swaps_no rfl) (Or.inl rfl))
    (ds_cons (ds_while PassesOwn.never (dt_w (dw_and (dt_cmp dop_lt (dv 2 rfl v_word_end_2 nb_stop nc_stop) (d_callB dca_len g_word_end_len T.m_len bt_len (da_cons (dv 0 rfl v_word_end_0 nb_text nc_text) da_nil) nn_len nb_len) (mark_no rfl)) (dw_and1 (dt_cmp dop_inS (d_ix (dv 0 rfl v_word_end_0 nb_text nc_text) (dv 2 rfl v_word_end_2 nb_stop nc_stop)) (d_op (dop_add false) (d_gStr T.k_SMALL g_word_end_SMALL nb_SMALL) (d_gStr T.k_GREAT g_word_end_GREAT nb_GREAT)) (mark_no rfl))))) (ds_one (ds_aug (i := 2) sc_word_end.nd rfl l_word_end_2 d_int ip_add (fun _ _ _ _ h => iadd_int h))))
    (ds_one (ds_ret (dv 2 rfl v_word_end_2 nb_stop nc_stop)))))) hS
/-! term from -/
abbrev s_term_from : Stmt := top 17
theorem sc_term_from : FnScope ["text", "start", "deep", "stop", "word", "some", "sign", "one"] ["text", "start", "deep"] (defScope s_term_from) := ⟨rfl, rfl, rfl, by decide +kernel, rfl, by decide +kernel, by decide +kernel⟩
theorem v_term_from_2 : Vis (defScope s_term_from) "deep" := Or.inl (by decide +kernel)
theorem g_term_from_DEEPEST : (defScope s_term_from).names.lookup ("DEEPEST" : Str) = some NameKind.globalImplicit := by decide +kernel
theorem g_term_from_must : (defScope s_term_from).names.lookup ("must" : Str) = some NameKind.globalImplicit := by decide +kernel
theorem v_term_from_0 : Vis (defScope s_term_from) "text" := Or.inl (by decide +kernel)
theorem v_term_from_1 : Vis (defScope s_term_from) "start" := Or.inl (by decide +kernel)
theorem g_term_from_word_end : (defScope s_term_from).names.lookup ("word_end" : Str) = some NameKind.globalImplicit := by decide +kernel
theorem l_term_from_3 : Loc (defScope s_term_from) "stop" := Or.inl (by decide +kernel)
theorem v_term_from_3 : Vis (defScope s_term_from) "stop" := Or.inl (by decide +kernel)
theorem l_term_from_4 : Loc (defScope s_term_from) "word" := Or.inl (by decide +kernel)
theorem v_term_from_4 : Vis (defScope s_term_from) "word" := Or.inl (by decide +kernel)
theorem g_term_from_is_unknown : (defScope s_term_from).names.lookup ("is_unknown" : Str) = some NameKind.globalImplicit := by decide +kernel
theorem g_term_from_is_name : (defScope s_term_from).names.lookup ("is_name" : Str) = some NameKind.globalImplicit := by decide +kernel
theorem l_term_from_5 : Loc (defScope s_term_from) "some" := Or.inl (by decide +kernel)
theorem l_term_from_6 : Loc (defScope s_term_from) "sign" := Or.inl (by decide +kernel)
theorem v_term_from_6 : Vis (defScope s_term_from) "sign" := Or.inl (by decide +kernel)
theorem v_term_from_5 : Vis (defScope s_term_from) "some" := Or.inl (by decide +kernel)
theorem g_term_from_len : (defScope s_term_from).names.lookup ("len" : Str) = some NameKind.globalImplicit := by decide +kernel
theorem g_term_from_MOST_WITHIN : (defScope s_term_from).names.lookup ("MOST_WITHIN" : Str) = some NameKind.globalImplicit := by decide +kernel
theorem g_term_from_term_from : (defScope s_term_from).names.lookup ("term_from" : Str) = some NameKind.globalImplicit := by decide +kernel
theorem l_term_from_7 : Loc (defScope s_term_from) "one" := Or.inl (by decide +kernel)
theorem v_term_from_7 : Vis (defScope s_term_from) "one" := Or.inl (by decide +kernel)
theorem g_term_from_tuple : (defScope s_term_from).names.lookup ("tuple" : Str) = some NameKind.globalImplicit := by decide +kernel
def w_term_from (S_must S_word_end S_is_unknown S_is_name S_term_from : Spc) : WS :=
  (sSeq (sDrop (wCall 1 S_must (wCons (wOp ltR (wVar 2) (wC (.int 100))) wNil)))
  (sSeq (sAsg (wCall 2 S_word_end (wCons (wVar 0) (wCons (wVar 1) wNil))) (gNm 3))
  (sSeq (sAsg (wSl false (wVar 0) (oSo (wVar 1)) (oSo (wVar 3))) (gNm 4))
  (sSeq (sIf (tTru (wCall 1 S_is_unknown (wCons (wVar 4) wNil))) (sRet (wTup (wCons (wVar 4) (wCons (wVar 3) wNil)))) sNext)
  (sSeq (sDrop (wCall 1 S_must (wCons (wCall 1 S_is_name (wCons (wVar 4) wNil)) wNil)))
  (sSeq (sAsg (wLst true (wCons (wVar 4) wNil)) (gNm 5))
  (sSeq (sAsg (wC (.str "(")) (gNm 6))
  (sSeq (sWhile (tAndP (tValP (wOp eqA (wSl false (wVar 0) (oSo (wVar 3)) (oSo (wOp (addR false) (wVar 3) (wC (.int 1))))) (wVar 6))) (tValP (wOp leR (wCa lenR (wCons (wVar 5) wNil)) (wC (.int 3)))))
    (sSeq (sAsg (wCall 3 S_term_from (wCons (wVar 0) (wCons (wOp (addR false) (wVar 3) (wC (.int 1))) (wCons (wOp (addR false) (wVar 2) (wC (.int 1))) wNil)))) (gTp 2 (gCn (gNm 7) (gCn (gNm 3) gNl))))
  (sSeq (sDrop (wM "list" appendR (wVar 5) (wCons (wVar 7) wNil)))
  (sAsg (wC (.str ",")) (gNm 6)))))
  (sSeq (sIf (tValP (wOp gtR (wCa lenR (wCons (wVar 5) wNil)) (wC (.int 1)))) (sSeq (sDrop (wCall 1 S_must (wCons (wOp eqA (wSl false (wVar 0) (oSo (wVar 3)) (oSo (wOp (addR false) (wVar 3) (wC (.int 1))))) (wC (.str ")"))) wNil)))
  (sAsg (wOp iaddR (wVar 3) (wC (.int 1))) (gNm 3))) sNext)
  (sRet (wTup (wCons (wCa tupleR (wCons (wVar 5) wNil)) (wCons (wVar 3) wNil)))))))))))))
def q_term_from : QS :=
  (.seq (.drop (.call 1 F_must (.cons (.op .lt (.var 2) (.cst (.int 100))) .nil))) (.seq (.asg (.call 2 F_word_end (.cons (.var 0) (.cons (.var 1) .nil))) (.nm 3)) (.seq (.asg (.sl false (.var 0) (.so (.var 1)) (.so (.var 3))) (.nm 4)) (.seq (.ite (.tru (.call 1 F_is_unknown (.cons (.var 4) .nil))) (.ret (.tup (.cons (.var 4) (.cons (.var 3) .nil)))) .next) (.seq (.drop (.call 1 F_must (.cons (.call 1 F_is_name (.cons (.var 4) .nil)) .nil))) (.seq (.asg (.lst true (.cons (.var 4) .nil)) (.nm 5)) (.seq (.asg (.cst (.str "(")) (.nm 6)) (.seq (.while (.and (.val (.op .eq (.sl false (.var 0) (.so (.var 3)) (.so (.op (.add false) (.var 3) (.cst (.int 1))))) (.var 6))) (.val (.op .le (.ca .len (.cons (.var 5) .nil)) (.cst (.int 3))))) (.seq (.asg (.call 3 F_term_from (.cons (.var 0) (.cons (.op (.add false) (.var 3) (.cst (.int 1))) (.cons (.op (.add false) (.var 2) (.cst (.int 1))) .nil)))) (.tp 2 (.cons (.nm 7) (.cons (.nm 3) .nil)))) (.seq (.drop (.mt "list" .append (.var 5) (.cons (.var 7) .nil))) (.asg (.cst (.str ",")) (.nm 6))))) (.seq (.ite (.val (.op .gt (.ca .len (.cons (.var 5) .nil)) (.cst (.int 1)))) (.seq (.drop (.call 1 F_must (.cons (.op .eq (.sl false (.var 0) (.so (.var 3)) (.so (.op (.add false) (.var 3) (.cst (.int 1))))) (.cst (.str ")"))) .nil))) (.asg (.op .iadd (.var 3) (.cst (.int 1))) (.nm 3))) .next) (.ret (.tup (.cons (.ca .tuple (.cons (.var 5) .nil)) (.cons (.var 3) .nil)))))))))))))
theorem qd_term_from (φ : Nat → Spc) : q_term_from.den φ = w_term_from (φ F_must) (φ F_word_end) (φ F_is_unknown) (φ F_is_name) (φ F_term_from) := rfl
theorem ok_term_from {S_must S_word_end S_is_unknown S_is_name S_term_from : Spc} {S : Spc} {k : Nat} {f : Addr} {fd : FuncData} (F : Fun K "term_from" "term_from" s_term_from f fd) (T : Txt mg) (C_must : Callee P w K mg base k "must" 1 S_must) (C_word_end : Callee P w K mg base k "word_end" 2 S_word_end) (C_is_unknown : Callee P w K mg base k "is_unknown" 1 S_is_unknown) (C_is_name : Callee P w K mg base k "is_name" 1 S_is_name) (C_term_from : Callee P w K mg base k "term_from" 3 S_term_from)
    (hS : ∀ xs sto Q, xs.length = 3 → S xs sto Q → w_term_from S_must S_word_end S_is_unknown S_is_name S_term_from { nx := fun _ st' => Q .non st', rt := Q } (startP ["text", "start", "deep", "stop", "word", "some", "sign", "one"] xs) sto) : FnG P w K mg base (k + 1) f fd ["text", "start", "deep"] (spOf K 3 S) :=
  fn_ok F sc_term_from rfl (fun cdv A outer s H G =>
    (ds_cons (ds_expr (d_callC C_must G (da_cons (d_cmp dop_lt (dv 2 rfl v_term_from_2 nb_deep nc_deep) (d_gInt T.k_DEEPEST g_term_from_DEEPEST nb_DEEPEST) (mark_no rfl)) da_nil) g_term_from_must nb_must))
    (ds_cons (ds_set (i := 3) sc_term_from.nd rfl l_term_from_3 (d_callC C_word_end G (da_cons (dv 0 rfl v_term_from_0 nb_text nc_text) (da_cons (dv 1 rfl v_term_from_1 nb_start nc_start) da_nil)) g_term_from_word_end nb_word_end) (by exact swaps_no rfl) (Or.inl rfl))
    (ds_cons (ds_set (i := 4) sc_term_from.nd rfl l_term_from_4 (d_slice false (dv 0 rfl v_term_from_0 nb_text nc_text) (do_so (dv 1 rfl v_term_from_1 nb_start nc_start)) (do_so (dv 3 rfl v_term_from_3 nb_stop nc_stop))) (by exact swaps_no rfl) (Or.inl rfl))
    (ds_cons (ds_if (dt_tru (d_callC C_is_unknown G (da_cons (dv 4 rfl v_term_from_4 nb_word nc_word) da_nil) g_term_from_is_unknown nb_is_unknown)) (ds_one (ds_ret (d_tup (da_cons (dv 4 rfl v_term_from_4 nb_word nc_word) (da_cons (dv 3 rfl v_term_from_3 nb_stop nc_stop) da_nil))))) ds_nil)
    (ds_cons (ds_expr (d_callC C_must G (da_cons (d_callC C_is_name G (da_cons (dv 4 rfl v_term_from_4 nb_word nc_word) da_nil) g_term_from_is_name nb_is_name) da_nil) g_term_from_must nb_must))
    (ds_cons (ds_set (i := 5) sc_term_from.nd rfl l_term_from_5 (d_lst true (da_cons (dv 4 rfl v_term_from_4 nb_word nc_word) da_nil)) (by exact swaps_no rfl) (Or.inl rfl))
    (ds_cons (ds_set (i := 6) sc_term_from.nd rfl l_term_from_6 d_str (by exact swaps_no rfl) (Or.inl rfl))
    (ds_cons (ds_while PassesOwn.never (dt_w (dw_and (dt_cmp (dop_eqA G) (d_slice false (dv 0 rfl v_term_from_0 nb_text nc_text) (do_so (dv 3 rfl v_term_from_3 nb_stop nc_stop)) (do_so (d_op (dop_add false) (dv 3 rfl v_term_from_3 nb_stop nc_stop) d_int))) (dv 6 rfl v_term_from_6 nb_sign nc_sign) (mark_no rfl)) (dw_and1 (dt_cmp dop_le (d_callB dca_len g_term_from_len T.m_len bt_len (da_cons (dv 5 rfl v_term_from_5 nb_some nc_some) da_nil) nn_len nb_len) (d_gInt T.k_MOST_WITHIN g_term_from_MOST_WITHIN nb_MOST_WITHIN) (mark_no rfl))))) (ds_cons (ds_asg (d_callC C_term_from G (da_cons (dv 0 rfl v_term_from_0 nb_text nc_text) (da_cons (d_op (dop_add false) (dv 3 rfl v_term_from_3 nb_stop nc_stop) d_int) (da_cons (d_op (dop_add false) (dv 2 rfl v_term_from_2 nb_deep nc_deep) d_int) da_nil))) g_term_from_term_from nb_term_from) (dg_tup G.calm (dgs_cons (dg_name (i := 7) sc_term_from.nd rfl l_term_from_7 (Or.inl rfl)) (dgs_cons (dg_name (i := 3) sc_term_from.nd rfl l_term_from_3 (Or.inl rfl)) dgs_nil))))
    (ds_cons (ds_expr (d_m PySem.F.plainAttrs_list PySem.F.slot_list_append PySem.F.type_list_append dm_append (dv 5 rfl v_term_from_5 nb_some nc_some) (da_cons (dv 7 rfl v_term_from_7 nb_one nc_one) da_nil)))
    (ds_one (ds_set (i := 6) sc_term_from.nd rfl l_term_from_6 d_str (by exact swaps_no rfl) (Or.inl rfl))))))
    (ds_cons (ds_if (dt_cmp dop_gt (d_callB dca_len g_term_from_len T.m_len bt_len (da_cons (dv 5 rfl v_term_from_5 nb_some nc_some) da_nil) nn_len nb_len) d_int (mark_no rfl)) (ds_cons (ds_expr (d_callC C_must G (da_cons (d_cmp (dop_eqA G) (d_slice false (dv 0 rfl v_term_from_0 nb_text nc_text) (do_so (dv 3 rfl v_term_from_3 nb_stop nc_stop)) (do_so (d_op (dop_add false) (dv 3 rfl v_term_from_3 nb_stop nc_stop) d_int))) d_str (mark_no rfl)) da_nil) g_term_from_must nb_must))
    (ds_one (ds_aug (i := 3) sc_term_from.nd rfl l_term_from_3 d_int ip_add (fun _ _ _ _ h => iadd_int h)))) ds_nil)
    (ds_one (ds_ret (d_tup (da_cons (d_callTy dca_tuple g_term_from_tuple T.m_tuple bt_tuple (da_cons (dv 5 rfl v_term_from_5 nb_some nc_some) da_nil) nn_tuple nb_tuple) (da_cons (dv 3 rfl v_term_from_3 nb_stop nc_stop) da_nil))))))))))))))) hS
/-! read term -/
abbrev s_read_term : Stmt := top 18
theorem sc_read_term : FnScope ["text", "term", "stop"] ["text"] (defScope s_read_term) := ⟨rfl, rfl, rfl, by decide +kernel, rfl, by decide +kernel, by decide +kernel⟩
theorem v_read_term_0 : Vis (defScope s_read_term) "text" := Or.inl (by decide +kernel)
theorem g_read_term_isinstance : (defScope s_read_term).names.lookup ("isinstance" : Str) = some NameKind.globalImplicit := by decide +kernel
theorem g_read_term_str : (defScope s_read_term).names.lookup ("str" : Str) = some NameKind.globalImplicit := by decide +kernel
theorem g_read_term_must : (defScope s_read_term).names.lookup ("must" : Str) = some NameKind.globalImplicit := by decide +kernel
theorem g_read_term_term_from : (defScope s_read_term).names.lookup ("term_from" : Str) = some NameKind.globalImplicit := by decide +kernel
theorem l_read_term_2 : Loc (defScope s_read_term) "stop" := Or.inl (by decide +kernel)
theorem l_read_term_1 : Loc (defScope s_read_term) "term" := Or.inl (by decide +kernel)
theorem v_read_term_2 : Vis (defScope s_read_term) "stop" := Or.inl (by decide +kernel)
theorem g_read_term_len : (defScope s_read_term).names.lookup ("len" : Str) = some NameKind.globalImplicit := by decide +kernel
theorem v_read_term_1 : Vis (defScope s_read_term) "term" := Or.inl (by decide +kernel)
def w_read_term (S_must S_term_from : Spc) : WS :=
  (sSeq (sDrop (wCall 1 S_must (wCons (wIsi "str" (wVar 0)) wNil)))
  (sSeq (sAsg (wCall 3 S_term_from (wCons (wVar 0) (wCons (wC (.int 0)) (wCons (wC (.int 0)) wNil)))) (gTp 2 (gCn (gNm 1) (gCn (gNm 2) gNl))))
  (sSeq (sDrop (wCall 1 S_must (wCons (wOp eqA (wVar 2) (wCa lenR (wCons (wVar 0) wNil))) wNil)))
  (sRet (wVar 1)))))
def q_read_term : QS :=
  (.seq (.drop (.call 1 F_must (.cons (.isi "str" (.var 0)) .nil))) (.seq (.asg (.call 3 F_term_from (.cons (.var 0) (.cons (.cst (.int 0)) (.cons (.cst (.int 0)) .nil)))) (.tp 2 (.cons (.nm 1) (.cons (.nm 2) .nil)))) (.seq (.drop (.call 1 F_must (.cons (.op .eq (.var 2) (.ca .len (.cons (.var 0) .nil))) .nil))) (.ret (.var 1)))))
theorem qd_read_term (φ : Nat → Spc) : q_read_term.den φ = w_read_term (φ F_must) (φ F_term_from) := rfl
theorem ok_read_term {S_must S_term_from : Spc} {S : Spc} {k : Nat} {f : Addr} {fd : FuncData} (F : Fun K "read_term" "read_term" s_read_term f fd) (T : Txt mg) (C_must : Callee P w K mg base k "must" 1 S_must) (C_term_from : Callee P w K mg base k "term_from" 3 S_term_from)
    (hS : ∀ xs sto Q, xs.length = 1 → S xs sto Q → w_read_term S_must S_term_from { nx := fun _ st' => Q .non st', rt := Q } (startP ["text", "term", "stop"] xs) sto) : FnG P w K mg base (k + 1) f fd ["text"] (spOf K 1 S) :=
  fn_ok F sc_read_term rfl (fun cdv A outer s H G =>
    (ds_cons (ds_expr (d_callC C_must G (da_cons (d_isi it_str g_read_term_isinstance T.m_isinstance g_read_term_str T.m_str bt_str (dv 0 rfl v_read_term_0 nb_text nc_text) nn_str nb_str) da_nil) g_read_term_must nb_must))
    (ds_cons (ds_asg (d_callC C_term_from G (da_cons (dv 0 rfl v_read_term_0 nb_text nc_text) (da_cons d_int (da_cons d_int da_nil))) g_read_term_term_from nb_term_from) (dg_tup G.calm (dgs_cons (dg_name (i := 1) sc_read_term.nd rfl l_read_term_1 (Or.inl rfl)) (dgs_cons (dg_name (i := 2) sc_read_term.nd rfl l_read_term_2 (Or.inl rfl)) dgs_nil))))
    (ds_cons (ds_expr (d_callC C_must G (da_cons (d_cmp (dop_eqA G) (dv 2 rfl v_read_term_2 nb_stop nc_stop) (d_callB dca_len g_read_term_len T.m_len bt_len (da_cons (dv 0 rfl v_read_term_0 nb_text nc_text) da_nil) nn_len nb_len) (mark_no rfl)) da_nil) g_read_term_must nb_must))
    (ds_one (ds_ret (dv 1 rfl v_read_term_1 nb_term nc_term))))))) hS
/-! law deck -/
abbrev s_law_deck : Stmt := top 20
theorem sc_law_deck : FnScope ["_law_cell"] ["_law_cell"] (defScope s_law_deck) := ⟨rfl, rfl, rfl, by decide +kernel, rfl, by decide +kernel, by decide +kernel⟩
theorem v_law_deck_0 : Vis (defScope s_law_deck) "_law_cell" := Or.inl (by decide +kernel)
theorem g_law_deck_int : (defScope s_law_deck).names.lookup ("int" : Str) = some NameKind.globalImplicit := by decide +kernel
def w_law_deck : WS :=
  (sRet (wLst true (wCons (wOp mulR (wVar 0) (wCa intR (wCons (wOp geR (wVar 0) (wOp powR (wC (.int 10)) (wC (.int 18)))) wNil))) (wCons (wOp modR (wVar 0) (wC (.int 2147483587))) (wCons (wC (.int 0)) wNil)))))
def q_law_deck : QS :=
  (.ret (.lst true (.cons (.op .mul (.var 0) (.ca .int (.cons (.op .ge (.var 0) (.op .pow (.cst (.int 10)) (.cst (.int 18)))) .nil))) (.cons (.op .mod (.var 0) (.cst (.int 2147483587))) (.cons (.cst (.int 0)) .nil)))))
theorem qd_law_deck (φ : Nat → Spc) : q_law_deck.den φ = w_law_deck := rfl
theorem ok_law_deck {S : Spc} {k : Nat} {f : Addr} {fd : FuncData} (F : Fun K "_law_deck" "_law_deck" s_law_deck f fd) (T : Txt mg) 
    (hS : ∀ xs sto Q, xs.length = 1 → S xs sto Q → w_law_deck  { nx := fun _ st' => Q .non st', rt := Q } (startP ["_law_cell"] xs) sto) : FnG P w K mg base (k + 1) f fd ["_law_cell"] (spOf K 1 S) :=
  fn_ok F sc_law_deck rfl (fun cdv A outer s H G =>
    (ds_one (ds_ret (d_lst true (da_cons (d_op dop_mul (dv 0 rfl v_law_deck_0 nb__law_cell nc__law_cell) (d_callTy dca_int g_law_deck_int T.m_int bt_int (da_cons (d_cmp dop_ge (dv 0 rfl v_law_deck_0 nb__law_cell nc__law_cell) (d_op dop_pow d_int d_int) (mark_no rfl)) da_nil) nn_int nb_int)) (da_cons (d_op dop_mod (dv 0 rfl v_law_deck_0 nb__law_cell nc__law_cell) d_int) (da_cons d_int da_nil))))))) hS
/-! law draw -/
abbrev s_law_draw : Stmt := top 21
theorem sc_law_draw : FnScope ["_law_deck_here", "_law_bound", "_law_got", "_law_mixed"] ["_law_deck_here", "_law_bound"] (defScope s_law_draw) := ⟨rfl, rfl, rfl, by decide +kernel, rfl, by decide +kernel, by decide +kernel⟩
theorem v_law_draw_0 : Vis (defScope s_law_draw) "_law_deck_here" := Or.inl (by decide +kernel)
theorem v_law_draw_1 : Vis (defScope s_law_draw) "_law_bound" := Or.inl (by decide +kernel)
theorem l_law_draw_2 : Loc (defScope s_law_draw) "_law_got" := Or.inl (by decide +kernel)
theorem v_law_draw_2 : Vis (defScope s_law_draw) "_law_got" := Or.inl (by decide +kernel)
theorem l_law_draw_3 : Loc (defScope s_law_draw) "_law_mixed" := Or.inl (by decide +kernel)
theorem v_law_draw_3 : Vis (defScope s_law_draw) "_law_mixed" := Or.inl (by decide +kernel)
def w_law_draw : WS :=
  (sSeq (sIf (tValP (wOp gtR (wOp ixR (wVar 0) (wC (.int 0))) (wC (.int 0)))) (sSeq (sAsg (wOp modR (wOp ixR (wVar 0) (wC (.int 0))) (wVar 1)) (gNm 2))
  (sSeq (sAsg (wOp fdivR (wOp ixR (wVar 0) (wC (.int 0))) (wVar 1)) (gIx (wVar 0) (wC (.int 0))))
  (sRet (wVar 2)))) sNext)
  (sSeq (sAsg (wOp (addR false) (wOp ixR (wVar 0) (wC (.int 2))) (wC (.int 1))) (gIx (wVar 0) (wC (.int 2))))
  (sSeq (sAsg (wOp modR (wOp mulR (wOp (addR false) (wOp (addR false) (wOp ixR (wVar 0) (wC (.int 1))) (wOp mulR (wC (.int 104729)) (wOp ixR (wVar 0) (wC (.int 2))))) (wC (.int 17))) (wC (.int 48271))) (wC (.int 2147483647))) (gNm 3))
  (sSeq (sAsg (wOp modR (wOp (addR false) (wOp (addR false) (wOp mulR (wVar 3) (wVar 3)) (wOp mulR (wC (.int 69621)) (wVar 3))) (wOp ixR (wVar 0) (wC (.int 2)))) (wC (.int 2147483629))) (gNm 3))
  (sRet (wOp modR (wOp fdivR (wOp modR (wOp mulR (wVar 3) (wC (.int 39373))) (wC (.int 2147483563))) (wC (.int 8))) (wVar 1)))))))
def q_law_draw : QS :=
  (.seq (.ite (.val (.op .gt (.op .ix (.var 0) (.cst (.int 0))) (.cst (.int 0)))) (.seq (.asg (.op .mod (.op .ix (.var 0) (.cst (.int 0))) (.var 1)) (.nm 2)) (.seq (.asg (.op .fdiv (.op .ix (.var 0) (.cst (.int 0))) (.var 1)) (.ix (.var 0) (.cst (.int 0)))) (.ret (.var 2)))) .next) (.seq (.asg (.op (.add false) (.op .ix (.var 0) (.cst (.int 2))) (.cst (.int 1))) (.ix (.var 0) (.cst (.int 2)))) (.seq (.asg (.op .mod (.op .mul (.op (.add false) (.op (.add false) (.op .ix (.var 0) (.cst (.int 1))) (.op .mul (.cst (.int 104729)) (.op .ix (.var 0) (.cst (.int 2))))) (.cst (.int 17))) (.cst (.int 48271))) (.cst (.int 2147483647))) (.nm 3)) (.seq (.asg (.op .mod (.op (.add false) (.op (.add false) (.op .mul (.var 3) (.var 3)) (.op .mul (.cst (.int 69621)) (.var 3))) (.op .ix (.var 0) (.cst (.int 2)))) (.cst (.int 2147483629))) (.nm 3)) (.ret (.op .mod (.op .fdiv (.op .mod (.op .mul (.var 3) (.cst (.int 39373))) (.cst (.int 2147483563))) (.cst (.int 8))) (.var 1)))))))
theorem qd_law_draw (φ : Nat → Spc) : q_law_draw.den φ = w_law_draw := rfl
theorem ok_law_draw {S : Spc} {k : Nat} {f : Addr} {fd : FuncData} (F : Fun K "_law_draw" "_law_draw" s_law_draw f fd) (T : Txt mg) 
    (hS : ∀ xs sto Q, xs.length = 2 → S xs sto Q → w_law_draw  { nx := fun _ st' => Q .non st', rt := Q } (startP ["_law_deck_here", "_law_bound", "_law_got", "_law_mixed"] xs) sto) : FnG P w K mg base (k + 1) f fd ["_law_deck_here", "_law_bound"] (spOf K 2 S) :=
  fn_ok F sc_law_draw rfl (fun cdv A outer s H G =>
    (ds_cons (ds_if (dt_cmp dop_gt (d_ix (dv 0 rfl v_law_draw_0 nb__law_deck_here nc__law_deck_here) d_int) d_int (mark_no rfl)) (ds_cons (ds_set (i := 2) sc_law_draw.nd rfl l_law_draw_2 (d_op dop_mod (d_ix (dv 0 rfl v_law_draw_0 nb__law_deck_here nc__law_deck_here) d_int) (dv 1 rfl v_law_draw_1 nb__law_bound nc__law_bound)) (by exact swaps_no rfl) (Or.inl rfl))
    (ds_cons (ds_asg (d_op dop_fdiv (d_ix (dv 0 rfl v_law_draw_0 nb__law_deck_here nc__law_deck_here) d_int) (dv 1 rfl v_law_draw_1 nb__law_bound nc__law_bound)) (dg_ix (dv 0 rfl v_law_draw_0 nb__law_deck_here nc__law_deck_here) d_int))
    (ds_one (ds_ret (dv 2 rfl v_law_draw_2 nb__law_got nc__law_got))))) ds_nil)
    (ds_cons (ds_asg (d_op (dop_add false) (d_ix (dv 0 rfl v_law_draw_0 nb__law_deck_here nc__law_deck_here) d_int) d_int) (dg_ix (dv 0 rfl v_law_draw_0 nb__law_deck_here nc__law_deck_here) d_int))
    (ds_cons (ds_set (i := 3) sc_law_draw.nd rfl l_law_draw_3 (d_op dop_mod (d_op dop_mul (d_op (dop_add false) (d_op (dop_add false) (d_ix (dv 0 rfl v_law_draw_0 nb__law_deck_here nc__law_deck_here) d_int) (d_op dop_mul d_int (d_ix (dv 0 rfl v_law_draw_0 nb__law_deck_here nc__law_deck_here) d_int))) d_int) d_int) d_int) (by exact swaps_no rfl) (Or.inl rfl))
    (ds_cons (ds_set (i := 3) sc_law_draw.nd rfl l_law_draw_3 (d_op dop_mod (d_op (dop_add false) (d_op (dop_add false) (d_op dop_mul (dv 3 rfl v_law_draw_3 nb__law_mixed nc__law_mixed) (dv 3 rfl v_law_draw_3 nb__law_mixed nc__law_mixed)) (d_op dop_mul d_int (dv 3 rfl v_law_draw_3 nb__law_mixed nc__law_mixed))) (d_ix (dv 0 rfl v_law_draw_0 nb__law_deck_here nc__law_deck_here) d_int)) d_int) (by exact swaps_no rfl) (Or.inl rfl))
    (ds_one (ds_ret (d_op dop_mod (d_op dop_fdiv (d_op dop_mod (d_op dop_mul (dv 3 rfl v_law_draw_3 nb__law_mixed nc__law_mixed) d_int) d_int) d_int) (dv 1 rfl v_law_draw_1 nb__law_bound nc__law_bound))))))))) hS
/-! law pick -/
abbrev s_law_pick : Stmt := top 22
theorem sc_law_pick : FnScope ["_law_deck_here", "_law_some"] ["_law_deck_here", "_law_some"] (defScope s_law_pick) := ⟨rfl, rfl, rfl, by decide +kernel, rfl, by decide +kernel, by decide +kernel⟩
theorem v_law_pick_1 : Vis (defScope s_law_pick) "_law_some" := Or.inl (by decide +kernel)
theorem v_law_pick_0 : Vis (defScope s_law_pick) "_law_deck_here" := Or.inl (by decide +kernel)
theorem g_law_pick_len : (defScope s_law_pick).names.lookup ("len" : Str) = some NameKind.globalImplicit := by decide +kernel
theorem g_law_pick__law_draw : (defScope s_law_pick).names.lookup ("_law_draw" : Str) = some NameKind.globalImplicit := by decide +kernel
def w_law_pick (S_law_draw : Spc) : WS :=
  (sRet (wOp ixR (wVar 1) (wCall 2 S_law_draw (wCons (wVar 0) (wCons (wCa lenR (wCons (wVar 1) wNil)) wNil)))))
def q_law_pick : QS :=
  (.ret (.op .ix (.var 1) (.call 2 F_law_draw (.cons (.var 0) (.cons (.ca .len (.cons (.var 1) .nil)) .nil)))))
theorem qd_law_pick (φ : Nat → Spc) : q_law_pick.den φ = w_law_pick (φ F_law_draw) := rfl
theorem ok_law_pick {S_law_draw : Spc} {S : Spc} {k : Nat} {f : Addr} {fd : FuncData} (F : Fun K "_law_pick" "_law_pick" s_law_pick f fd) (T : Txt mg) (C_law_draw : Callee P w K mg base k "_law_draw" 2 S_law_draw)
    (hS : ∀ xs sto Q, xs.length = 2 → S xs sto Q → w_law_pick S_law_draw { nx := fun _ st' => Q .non st', rt := Q } (startP ["_law_deck_here", "_law_some"] xs) sto) : FnG P w K mg base (k + 1) f fd ["_law_deck_here", "_law_some"] (spOf K 2 S) :=
  fn_ok F sc_law_pick rfl (fun cdv A outer s H G =>
    (ds_one (ds_ret (d_ix (dv 1 rfl v_law_pick_1 nb__law_some nc__law_some) (d_callC C_law_draw G (da_cons (dv 0 rfl v_law_pick_0 nb__law_deck_here nc__law_deck_here) (da_cons (d_callB dca_len g_law_pick_len T.m_len bt_len (da_cons (dv 1 rfl v_law_pick_1 nb__law_some nc__law_some) da_nil) nn_len nb_len) da_nil)) g_law_pick__law_draw nb__law_draw))))) hS
/-! law spelt -/
abbrev s_law_spelt : Stmt := top 23
theorem sc_law_spelt : FnScope ["_law_deck_here", "_law_letters", "_law_small", "_law_many", "_law_k"] ["_law_deck_here", "_law_letters"] (defScope s_law_spelt) := ⟨rfl, rfl, rfl, by decide +kernel, rfl, by decide +kernel, by decide +kernel⟩
theorem l_law_spelt_2 : Loc (defScope s_law_spelt) "_law_small" := Or.inr (by decide +kernel)
theorem v_law_spelt_0 : Vis (defScope s_law_spelt) "_law_deck_here" := Or.inr (Or.inl (by decide +kernel))
theorem g_law_spelt__law_draw : (defScope s_law_spelt).names.lookup ("_law_draw" : Str) = some NameKind.globalImplicit := by decide +kernel
theorem l_law_spelt_3 : Loc (defScope s_law_spelt) "_law_many" := Or.inl (by decide +kernel)
theorem v_law_spelt_1 : Vis (defScope s_law_spelt) "_law_letters" := Or.inl (by decide +kernel)
theorem v_law_spelt_3 : Vis (defScope s_law_spelt) "_law_many" := Or.inl (by decide +kernel)
theorem g_law_spelt_range : (defScope s_law_spelt).names.lookup ("range" : Str) = some NameKind.globalImplicit := by decide +kernel
def w_law_spelt (S_law_draw : Spc) : WS :=
  (sSeq (sAsg (wC (.str "abcdefghijklmnopqrstuvwxyz")) (gNm 2))
  (sSeq (sAsg (wOp ixR (wLst false (wCons (wC (.int 1)) (wCons (wC (.int 6)) (wCons (wOp (addR false) (wC (.int 1)) (wCall 2 S_law_draw (wCons (wVar 0) (wCons (wC (.int 6)) wNil)))) wNil)))) (wCall 2 S_law_draw (wCons (wVar 0) (wCons (wC (.int 3)) wNil)))) (gNm 3))
  (sRet (wOp (addR false) (wOp ixR (wVar 1) (wCall 2 S_law_draw (wCons (wVar 0) (wCons (wC (.int 26)) wNil)))) (wM "str" joinR (wC (.str "")) (wCons (wLc false (iRg1 (wCons (wOp subR (wVar 3) (wC (.int 1))) wNil)) (gNm 4) tYesP (wOp ixR (wVar 2) (wCall 2 S_law_draw (wCons (wVar 0) (wCons (wC (.int 26)) wNil)))) [4]) wNil))))))
def q_law_spelt : QS :=
  (.seq (.asg (.cst (.str "abcdefghijklmnopqrstuvwxyz")) (.nm 2)) (.seq (.asg (.op .ix (.lst false (.cons (.cst (.int 1)) (.cons (.cst (.int 6)) (.cons (.op (.add false) (.cst (.int 1)) (.call 2 F_law_draw (.cons (.var 0) (.cons (.cst (.int 6)) .nil)))) .nil)))) (.call 2 F_law_draw (.cons (.var 0) (.cons (.cst (.int 3)) .nil)))) (.nm 3)) (.ret (.op (.add false) (.op .ix (.var 1) (.call 2 F_law_draw (.cons (.var 0) (.cons (.cst (.int 26)) .nil)))) (.mt "str" .join (.cst (.str "")) (.cons (.lc false (.rg1 (.cons (.op .sub (.var 3) (.cst (.int 1))) .nil)) (.nm 4) .yes (.op .ix (.var 2) (.call 2 F_law_draw (.cons (.var 0) (.cons (.cst (.int 26)) .nil)))) [4]) .nil))))))
theorem qd_law_spelt (φ : Nat → Spc) : q_law_spelt.den φ = w_law_spelt (φ F_law_draw) := rfl
theorem ok_law_spelt {S_law_draw : Spc} {S : Spc} {k : Nat} {f : Addr} {fd : FuncData} (F : Fun K "_law_spelt" "_law_spelt" s_law_spelt f fd) (T : Txt mg) (C_law_draw : Callee P w K mg base k "_law_draw" 2 S_law_draw)
    (hS : ∀ xs sto Q, xs.length = 2 → S xs sto Q → w_law_spelt S_law_draw { nx := fun _ st' => Q .non st', rt := Q } (startP ["_law_deck_here", "_law_letters", "_law_small", "_law_many", "_law_k"] xs) sto) : FnG P w K mg base (k + 1) f fd ["_law_deck_here", "_law_letters"] (spOf K 2 S) :=
  fn_ok F sc_law_spelt rfl (fun cdv A outer s H G =>
    (ds_cons (ds_set (i := 2) sc_law_spelt.nd rfl l_law_spelt_2 d_str (by exact swaps_no rfl) (Or.inl rfl))
    (ds_cons (ds_set (i := 3) sc_law_spelt.nd rfl l_law_spelt_3 (d_ix (d_lst false (da_cons d_int (da_cons d_int (da_cons (d_op (dop_add false) d_int (d_callC C_law_draw G (da_cons (dv 0 rfl v_law_spelt_0 nb__law_deck_here nc__law_deck_here) (da_cons d_int da_nil)) g_law_spelt__law_draw nb__law_draw)) da_nil)))) (d_callC C_law_draw G (da_cons (dv 0 rfl v_law_spelt_0 nb__law_deck_here nc__law_deck_here) (da_cons d_int da_nil)) g_law_spelt__law_draw nb__law_draw)) (by exact swaps_no rfl) (Or.inl rfl))
    (ds_one (ds_ret (d_op (dop_add false) (d_ix (dv 1 rfl v_law_spelt_1 nb__law_letters nc__law_letters) (d_callC C_law_draw G (da_cons (dv 0 rfl v_law_spelt_0 nb__law_deck_here nc__law_deck_here) (da_cons d_int da_nil)) g_law_spelt__law_draw nb__law_draw)) (d_m PySem.F.plainAttrs_str PySem.F.slot_str_join PySem.F.type_str_join dm_join d_str (da_cons (d_lc false G.calm sc_law_spelt.nd (di_rng1 g_law_spelt_range T.m_range (da_cons (d_op dop_sub (dv 3 rfl v_law_spelt_3 nb__law_many nc__law_many) d_int) da_nil)) (blkOk_by (N := ["_law_deck_here", "_law_letters", "_law_small", "_law_many", "_law_k"]) (sc := defScope s_law_spelt) (own := [("_law_k", 4)]) (by decide +kernel)) (fun _ _ _ _ _ => (dg_name (i := 4) sc_law_spelt.nd rfl (by first | exact loc_blk (Or.inl (by decide +kernel)) | exact loc_blk (Or.inr (by decide +kernel))) (by first | exact fl_blk (by decide +kernel) | exact fc_blk (by decide +kernel)))) (by decide) (fun _ _ _ _ _ => dts_nil) (fun _ _ _ _ _ => (d_ix (dv 2 rfl (by first | exact vis_blk (Or.inr (Or.inr (by decide +kernel))) | exact vis_blk (Or.inl (by decide +kernel)) | exact vis_blk (Or.inr (Or.inl (by decide +kernel)))) nb__law_small nc__law_small) (d_callC C_law_draw (xgb G) (da_cons (dv 0 rfl (by first | exact vis_blk (Or.inr (Or.inr (by decide +kernel))) | exact vis_blk (Or.inl (by decide +kernel)) | exact vis_blk (Or.inr (Or.inl (by decide +kernel)))) nb__law_deck_here nc__law_deck_here) (da_cons d_int da_nil)) (gl_blk (by decide +kernel)) nb__law_draw)))) da_nil)))))))) hS
/-! law unlike -/
abbrev s_law_unlike : Stmt := top 24
theorem sc_law_unlike : FnScope ["_law_deck_here", "_law_letters", "_law_many", "_law_way", "_law_word", "_law_base", "_law_at", "_law_row", "_law_first", "_law_k"] ["_law_deck_here", "_law_letters", "_law_many"] (defScope s_law_unlike) := ⟨rfl, rfl, rfl, by decide +kernel, rfl, by decide +kernel, by decide +kernel⟩
theorem v_law_unlike_0 : Vis (defScope s_law_unlike) "_law_deck_here" := Or.inl (by decide +kernel)
theorem g_law_unlike__law_draw : (defScope s_law_unlike).names.lookup ("_law_draw" : Str) = some NameKind.globalImplicit := by decide +kernel
theorem l_law_unlike_3 : Loc (defScope s_law_unlike) "_law_way" := Or.inl (by decide +kernel)
theorem v_law_unlike_1 : Vis (defScope s_law_unlike) "_law_letters" := Or.inl (by decide +kernel)
theorem g_law_unlike__law_spelt : (defScope s_law_unlike).names.lookup ("_law_spelt" : Str) = some NameKind.globalImplicit := by decide +kernel
theorem l_law_unlike_4 : Loc (defScope s_law_unlike) "_law_word" := Or.inr (by decide +kernel)
theorem v_law_unlike_3 : Vis (defScope s_law_unlike) "_law_way" := Or.inl (by decide +kernel)
theorem v_law_unlike_4 : Vis (defScope s_law_unlike) "_law_word" := Or.inr (Or.inl (by decide +kernel))
theorem l_law_unlike_5 : Loc (defScope s_law_unlike) "_law_base" := Or.inr (by decide +kernel)
theorem v_law_unlike_2 : Vis (defScope s_law_unlike) "_law_many" := Or.inl (by decide +kernel)
theorem g_law_unlike_min : (defScope s_law_unlike).names.lookup ("min" : Str) = some NameKind.globalImplicit := by decide +kernel
theorem g_law_unlike_range : (defScope s_law_unlike).names.lookup ("range" : Str) = some NameKind.globalImplicit := by decide +kernel
theorem g_law_unlike_len : (defScope s_law_unlike).names.lookup ("len" : Str) = some NameKind.globalImplicit := by decide +kernel
theorem l_law_unlike_6 : Loc (defScope s_law_unlike) "_law_at" := Or.inr (by decide +kernel)
theorem v_law_unlike_6 : Vis (defScope s_law_unlike) "_law_at" := Or.inr (Or.inl (by decide +kernel))
theorem g_law_unlike_int : (defScope s_law_unlike).names.lookup ("int" : Str) = some NameKind.globalImplicit := by decide +kernel
theorem l_law_unlike_7 : Loc (defScope s_law_unlike) "_law_row" := Or.inr (by decide +kernel)
theorem l_law_unlike_8 : Loc (defScope s_law_unlike) "_law_first" := Or.inr (by decide +kernel)
def w_law_unlike (S_law_draw S_law_spelt : Spc) : WS :=
  (sSeq (sAsg (wCall 2 S_law_draw (wCons (wVar 0) (wCons (wC (.int 3)) wNil))) (gNm 3))
  (sSeq (sAsg (wCall 2 S_law_spelt (wCons (wVar 0) (wCons (wVar 1) wNil))) (gNm 4))
  (sSeq (sIf (tValP (wOp eqA (wVar 3) (wC (.int 0)))) (sSeq (sAsg (wSl false (wOp (addR false) (wVar 4) (wC (.str "abcdef"))) oNo (oSo (wC (.int 6)))) (gNm 5))
  (sRet (wLc false (iRg1 (wCons (wCa min2R (wCons (wC (.int 6)) (wCons (wVar 2) wNil))) wNil)) (gNm 9) tYesP (wSl false (wVar 5) oNo (oSo (wOp (addR false) (wC (.int 1)) (wVar 9)))) [9]))) sNext)
  (sSeq (sAsg (wCall 2 S_law_draw (wCons (wVar 0) (wCons (wCa lenR (wCons (wVar 4) wNil)) wNil))) (gNm 6))
  (sSeq (sAsg (wOp ixR (wLst false (wCons (wVar 1) (wCons (wC (.str "abcdefghijklmnopqrstuvwxyz")) wNil))) (wCa intR (wCons (wOp gtR (wVar 6) (wC (.int 0))) wNil))) (gNm 7))
  (sSeq (sAsg (wCall 2 S_law_draw (wCons (wVar 0) (wCons (wC (.int 26)) wNil))) (gNm 8))
  (sRet (wLc false (iRg1 (wCons (wVar 2) wNil)) (gNm 9) tYesP (wOp (addR false) (wOp (addR false) (wSl false (wVar 4) oNo (oSo (wVar 6))) (wOp ixR (wVar 7) (wOp modR (wOp (addR false) (wVar 8) (wOp mulR (wC (.int 3)) (wVar 9))) (wC (.int 26))))) (wSl false (wVar 4) (oSo (wOp (addR false) (wVar 6) (wC (.int 1)))) oNo)) [9]))))))))
def q_law_unlike : QS :=
  (.seq (.asg (.call 2 F_law_draw (.cons (.var 0) (.cons (.cst (.int 3)) .nil))) (.nm 3)) (.seq (.asg (.call 2 F_law_spelt (.cons (.var 0) (.cons (.var 1) .nil))) (.nm 4)) (.seq (.ite (.val (.op .eq (.var 3) (.cst (.int 0)))) (.seq (.asg (.sl false (.op (.add false) (.var 4) (.cst (.str "abcdef"))) .no (.so (.cst (.int 6)))) (.nm 5)) (.ret (.lc false (.rg1 (.cons (.ca .min2 (.cons (.cst (.int 6)) (.cons (.var 2) .nil))) .nil)) (.nm 9) .yes (.sl false (.var 5) .no (.so (.op (.add false) (.cst (.int 1)) (.var 9)))) [9]))) .next) (.seq (.asg (.call 2 F_law_draw (.cons (.var 0) (.cons (.ca .len (.cons (.var 4) .nil)) .nil))) (.nm 6)) (.seq (.asg (.op .ix (.lst false (.cons (.var 1) (.cons (.cst (.str "abcdefghijklmnopqrstuvwxyz")) .nil))) (.ca .int (.cons (.op .gt (.var 6) (.cst (.int 0))) .nil))) (.nm 7)) (.seq (.asg (.call 2 F_law_draw (.cons (.var 0) (.cons (.cst (.int 26)) .nil))) (.nm 8)) (.ret (.lc false (.rg1 (.cons (.var 2) .nil)) (.nm 9) .yes (.op (.add false) (.op (.add false) (.sl false (.var 4) .no (.so (.var 6))) (.op .ix (.var 7) (.op .mod (.op (.add false) (.var 8) (.op .mul (.cst (.int 3)) (.var 9))) (.cst (.int 26))))) (.sl false (.var 4) (.so (.op (.add false) (.var 6) (.cst (.int 1)))) .no)) [9]))))))))
theorem qd_law_unlike (φ : Nat → Spc) : q_law_unlike.den φ = w_law_unlike (φ F_law_draw) (φ F_law_spelt) := rfl
theorem ok_law_unlike {S_law_draw S_law_spelt : Spc} {S : Spc} {k : Nat} {f : Addr} {fd : FuncData} (F : Fun K "_law_unlike" "_law_unlike" s_law_unlike f fd) (T : Txt mg) (C_law_draw : Callee P w K mg base k "_law_draw" 2 S_law_draw) (C_law_spelt : Callee P w K mg base k "_law_spelt" 2 S_law_spelt)
    (hS : ∀ xs sto Q, xs.length = 3 → S xs sto Q → w_law_unlike S_law_draw S_law_spelt { nx := fun _ st' => Q .non st', rt := Q } (startP ["_law_deck_here", "_law_letters", "_law_many", "_law_way", "_law_word", "_law_base", "_law_at", "_law_row", "_law_first", "_law_k"] xs) sto) : FnG P w K mg base (k + 1) f fd ["_law_deck_here", "_law_letters", "_law_many"] (spOf K 3 S) :=
  fn_ok F sc_law_unlike rfl (fun cdv A outer s H G =>
    (ds_cons (ds_set (i := 3) sc_law_unlike.nd rfl l_law_unlike_3 (d_callC C_law_draw G (da_cons (dv 0 rfl v_law_unlike_0 nb__law_deck_here nc__law_deck_here) (da_cons d_int da_nil)) g_law_unlike__law_draw nb__law_draw) (by exact swaps_no rfl) (Or.inl rfl))
    (ds_cons (ds_set (i := 4) sc_law_unlike.nd rfl l_law_unlike_4 (d_callC C_law_spelt G (da_cons (dv 0 rfl v_law_unlike_0 nb__law_deck_here nc__law_deck_here) (da_cons (dv 1 rfl v_law_unlike_1 nb__law_letters nc__law_letters) da_nil)) g_law_unlike__law_spelt nb__law_spelt) (by exact swaps_no rfl) (Or.inl rfl))
    (ds_cons (ds_if (dt_cmp (dop_eqA G) (dv 3 rfl v_law_unlike_3 nb__law_way nc__law_way) d_int (mark_no rfl)) (ds_cons (ds_set (i := 5) sc_law_unlike.nd rfl l_law_unlike_5 (d_slice false (d_op (dop_add false) (dv 4 rfl v_law_unlike_4 nb__law_word nc__law_word) d_str) do_no (do_so d_int)) (by exact swaps_no rfl) (Or.inl rfl))
    (ds_one (ds_ret (d_lc false G.calm sc_law_unlike.nd (di_rng1 g_law_unlike_range T.m_range (da_cons (d_callB (dca_min2 G.calm) g_law_unlike_min T.m_min bt_min (da_cons d_int (da_cons (dv 2 rfl v_law_unlike_2 nb__law_many nc__law_many) da_nil)) nn_min nb_min) da_nil)) (blkOk_by (N := ["_law_deck_here", "_law_letters", "_law_many", "_law_way", "_law_word", "_law_base", "_law_at", "_law_row", "_law_first", "_law_k"]) (sc := defScope s_law_unlike) (own := [("_law_k", 9)]) (by decide +kernel)) (fun _ _ _ _ _ => (dg_name (i := 9) sc_law_unlike.nd rfl (by first | exact loc_blk (Or.inl (by decide +kernel)) | exact loc_blk (Or.inr (by decide +kernel))) (by first | exact fl_blk (by decide +kernel) | exact fc_blk (by decide +kernel)))) (by decide) (fun _ _ _ _ _ => dts_nil) (fun _ _ _ _ _ => (d_slice false (dv 5 rfl (by first | exact vis_blk (Or.inr (Or.inr (by decide +kernel))) | exact vis_blk (Or.inl (by decide +kernel)) | exact vis_blk (Or.inr (Or.inl (by decide +kernel)))) nb__law_base nc__law_base) do_no (do_so (d_op (dop_add false) d_int (dv 9 rfl (by first | exact vis_blk (Or.inl (by decide +kernel)) | exact vis_blk (Or.inr (Or.inl (by decide +kernel))) | exact vis_blk (Or.inr (Or.inr (by decide +kernel)))) nb__law_k nc__law_k))))))))) ds_nil)
    (ds_cons (ds_set (i := 6) sc_law_unlike.nd rfl l_law_unlike_6 (d_callC C_law_draw G (da_cons (dv 0 rfl v_law_unlike_0 nb__law_deck_here nc__law_deck_here) (da_cons (d_callB dca_len g_law_unlike_len T.m_len bt_len (da_cons (dv 4 rfl v_law_unlike_4 nb__law_word nc__law_word) da_nil) nn_len nb_len) da_nil)) g_law_unlike__law_draw nb__law_draw) (by exact swaps_no rfl) (Or.inl rfl))
    (ds_cons (ds_set (i := 7) sc_law_unlike.nd rfl l_law_unlike_7 (d_ix (d_lst false (da_cons (dv 1 rfl v_law_unlike_1 nb__law_letters nc__law_letters) (da_cons d_str da_nil))) (d_callTy dca_int g_law_unlike_int T.m_int bt_int (da_cons (d_cmp dop_gt (dv 6 rfl v_law_unlike_6 nb__law_at nc__law_at) d_int (mark_no rfl)) da_nil) nn_int nb_int)) (by exact swaps_no rfl) (Or.inl rfl))
    (ds_cons (ds_set (i := 8) sc_law_unlike.nd rfl l_law_unlike_8 (d_callC C_law_draw G (da_cons (dv 0 rfl v_law_unlike_0 nb__law_deck_here nc__law_deck_here) (da_cons d_int da_nil)) g_law_unlike__law_draw nb__law_draw) (by exact swaps_no rfl) (Or.inl rfl))
    (ds_one (ds_ret (d_lc false G.calm sc_law_unlike.nd (di_rng1 g_law_unlike_range T.m_range (da_cons (dv 2 rfl v_law_unlike_2 nb__law_many nc__law_many) da_nil)) (blkOk_by (N := ["_law_deck_here", "_law_letters", "_law_many", "_law_way", "_law_word", "_law_base", "_law_at", "_law_row", "_law_first", "_law_k"]) (sc := defScope s_law_unlike) (own := [("_law_k", 9)]) (by decide +kernel)) (fun _ _ _ _ _ => (dg_name (i := 9) sc_law_unlike.nd rfl (by first | exact loc_blk (Or.inl (by decide +kernel)) | exact loc_blk (Or.inr (by decide +kernel))) (by first | exact fl_blk (by decide +kernel) | exact fc_blk (by decide +kernel)))) (by decide) (fun _ _ _ _ _ => dts_nil) (fun _ _ _ _ _ => (d_op (dop_add false) (d_op (dop_add false) (d_slice false (dv 4 rfl (by first | exact vis_blk (Or.inr (Or.inr (by decide +kernel))) | exact vis_blk (Or.inl (by decide +kernel)) | exact vis_blk (Or.inr (Or.inl (by decide +kernel)))) nb__law_word nc__law_word) do_no (do_so (dv 6 rfl (by first | exact vis_blk (Or.inr (Or.inr (by decide +kernel))) | exact vis_blk (Or.inl (by decide +kernel)) | exact vis_blk (Or.inr (Or.inl (by decide +kernel)))) nb__law_at nc__law_at))) (d_ix (dv 7 rfl (by first | exact vis_blk (Or.inr (Or.inr (by decide +kernel))) | exact vis_blk (Or.inl (by decide +kernel)) | exact vis_blk (Or.inr (Or.inl (by decide +kernel)))) nb__law_row nc__law_row) (d_op dop_mod (d_op (dop_add false) (dv 8 rfl (by first | exact vis_blk (Or.inr (Or.inr (by decide +kernel))) | exact vis_blk (Or.inl (by decide +kernel)) | exact vis_blk (Or.inr (Or.inl (by decide +kernel)))) nb__law_first nc__law_first) (d_op dop_mul d_int (dv 9 rfl (by first | exact vis_blk (Or.inl (by decide +kernel)) | exact vis_blk (Or.inr (Or.inl (by decide +kernel))) | exact vis_blk (Or.inr (Or.inr (by decide +kernel)))) nb__law_k nc__law_k))) d_int))) (d_slice false (dv 4 rfl (by first | exact vis_blk (Or.inr (Or.inr (by decide +kernel))) | exact vis_blk (Or.inl (by decide +kernel)) | exact vis_blk (Or.inr (Or.inl (by decide +kernel)))) nb__law_word nc__law_word) (do_so (d_op (dop_add false) (dv 6 rfl (by first | exact vis_blk (Or.inr (Or.inr (by decide +kernel))) | exact vis_blk (Or.inl (by decide +kernel)) | exact vis_blk (Or.inr (Or.inl (by decide +kernel)))) nb__law_at nc__law_at) d_int)) do_no))))))))))))) hS
/-! law pool -/
abbrev s_law_pool : Stmt := top 25
theorem sc_law_pool : FnScope ["_law_deck_here", "_law_names", "_law_counts"] ["_law_deck_here"] (defScope s_law_pool) := ⟨rfl, rfl, rfl, by decide +kernel, rfl, by decide +kernel, by decide +kernel⟩
theorem v_law_pool_0 : Vis (defScope s_law_pool) "_law_deck_here" := Or.inl (by decide +kernel)
theorem g_law_pool__law_unlike : (defScope s_law_pool).names.lookup ("_law_unlike" : Str) = some NameKind.globalImplicit := by decide +kernel
theorem l_law_pool_1 : Loc (defScope s_law_pool) "_law_names" := Or.inl (by decide +kernel)
theorem g_law_pool__law_draw : (defScope s_law_pool).names.lookup ("_law_draw" : Str) = some NameKind.globalImplicit := by decide +kernel
theorem l_law_pool_2 : Loc (defScope s_law_pool) "_law_counts" := Or.inl (by decide +kernel)
theorem v_law_pool_1 : Vis (defScope s_law_pool) "_law_names" := Or.inl (by decide +kernel)
theorem v_law_pool_2 : Vis (defScope s_law_pool) "_law_counts" := Or.inl (by decide +kernel)
theorem g_law_pool_zip : (defScope s_law_pool).names.lookup ("zip" : Str) = some NameKind.globalImplicit := by decide +kernel
theorem g_law_pool_list : (defScope s_law_pool).names.lookup ("list" : Str) = some NameKind.globalImplicit := by decide +kernel
def w_law_pool (S_law_unlike S_law_draw : Spc) : WS :=
  (sSeq (sAsg (wCall 3 S_law_unlike (wCons (wVar 0) (wCons (wC (.str "abcdefghijklmnopqrstuvwxyz")) (wCons (wC (.int 5)) wNil)))) (gNm 1))
  (sSeq (sAsg (wLst false (wCons (wC (.int 0)) (wCons (wC (.int 1)) (wCons (wOp ixR (wLst false (wCons (wC (.int 1)) (wCons (wC (.int 2)) (wCons (wC (.int 2)) (wCons (wC (.int 3)) wNil))))) (wCall 2 S_law_draw (wCons (wVar 0) (wCons (wC (.int 4)) wNil)))) (wCons (wOp ixR (wLst false (wCons (wC (.int 0)) (wCons (wC (.int 1)) (wCons (wC (.int 2)) (wCons (wC (.int 3)) wNil))))) (wCall 2 S_law_draw (wCons (wVar 0) (wCons (wC (.int 4)) wNil)))) (wCons (wC (.int 2)) wNil)))))) (gNm 2))
  (sRet (wDisp false [((wC (.str "signs")), (wCa (zipLR false) (wCons (wVar 1) (wCons (wVar 2) wNil)))), ((wC (.str "unknowns")), (wCall 3 S_law_unlike (wCons (wVar 0) (wCons (wC (.str "ABCDEFGHIJKLMNOPQRSTUVWXYZ")) (wCons (wC (.int 4)) wNil)))))]))))
def q_law_pool : QS :=
  (.seq (.asg (.call 3 F_law_unlike (.cons (.var 0) (.cons (.cst (.str "abcdefghijklmnopqrstuvwxyz")) (.cons (.cst (.int 5)) .nil)))) (.nm 1)) (.seq (.asg (.lst false (.cons (.cst (.int 0)) (.cons (.cst (.int 1)) (.cons (.op .ix (.lst false (.cons (.cst (.int 1)) (.cons (.cst (.int 2)) (.cons (.cst (.int 2)) (.cons (.cst (.int 3)) .nil))))) (.call 2 F_law_draw (.cons (.var 0) (.cons (.cst (.int 4)) .nil)))) (.cons (.op .ix (.lst false (.cons (.cst (.int 0)) (.cons (.cst (.int 1)) (.cons (.cst (.int 2)) (.cons (.cst (.int 3)) .nil))))) (.call 2 F_law_draw (.cons (.var 0) (.cons (.cst (.int 4)) .nil)))) (.cons (.cst (.int 2)) .nil)))))) (.nm 2)) (.ret (.disp false (.cons (.cst (.str "signs")) (.ca (.zipL false) (.cons (.var 1) (.cons (.var 2) .nil))) (.cons (.cst (.str "unknowns")) (.call 3 F_law_unlike (.cons (.var 0) (.cons (.cst (.str "ABCDEFGHIJKLMNOPQRSTUVWXYZ")) (.cons (.cst (.int 4)) .nil)))) .nil))))))
theorem qd_law_pool (φ : Nat → Spc) : q_law_pool.den φ = w_law_pool (φ F_law_unlike) (φ F_law_draw) := rfl
theorem ok_law_pool {S_law_unlike S_law_draw : Spc} {S : Spc} {k : Nat} {f : Addr} {fd : FuncData} (F : Fun K "_law_pool" "_law_pool" s_law_pool f fd) (T : Txt mg) (C_law_unlike : Callee P w K mg base k "_law_unlike" 3 S_law_unlike) (C_law_draw : Callee P w K mg base k "_law_draw" 2 S_law_draw)
    (hS : ∀ xs sto Q, xs.length = 1 → S xs sto Q → w_law_pool S_law_unlike S_law_draw { nx := fun _ st' => Q .non st', rt := Q } (startP ["_law_deck_here", "_law_names", "_law_counts"] xs) sto) : FnG P w K mg base (k + 1) f fd ["_law_deck_here"] (spOf K 1 S) :=
  fn_ok F sc_law_pool rfl (fun cdv A outer s H G =>
    (ds_cons (ds_set (i := 1) sc_law_pool.nd rfl l_law_pool_1 (d_callC C_law_unlike G (da_cons (dv 0 rfl v_law_pool_0 nb__law_deck_here nc__law_deck_here) (da_cons d_str (da_cons d_int da_nil))) g_law_pool__law_unlike nb__law_unlike) (by exact swaps_no rfl) (Or.inl rfl))
    (ds_cons (ds_set (i := 2) sc_law_pool.nd rfl l_law_pool_2 (d_lst false (da_cons d_int (da_cons d_int (da_cons (d_ix (d_lst false (da_cons d_int (da_cons d_int (da_cons d_int (da_cons d_int da_nil))))) (d_callC C_law_draw G (da_cons (dv 0 rfl v_law_pool_0 nb__law_deck_here nc__law_deck_here) (da_cons d_int da_nil)) g_law_pool__law_draw nb__law_draw)) (da_cons (d_ix (d_lst false (da_cons d_int (da_cons d_int (da_cons d_int (da_cons d_int da_nil))))) (d_callC C_law_draw G (da_cons (dv 0 rfl v_law_pool_0 nb__law_deck_here nc__law_deck_here) (da_cons d_int da_nil)) g_law_pool__law_draw nb__law_draw)) (da_cons d_int da_nil)))))) (by exact swaps_no rfl) (Or.inl rfl))
    (ds_one (ds_ret (d_disp false (DPr.cons d_str (d_listZip false G.calm g_law_pool_zip T.m_zip g_law_pool_list T.m_list (da_cons (dv 1 rfl v_law_pool_1 nb__law_names nc__law_names) (da_cons (dv 2 rfl v_law_pool_2 nb__law_counts nc__law_counts) da_nil))) (DPr.cons d_str (d_callC C_law_unlike G (da_cons (dv 0 rfl v_law_pool_0 nb__law_deck_here nc__law_deck_here) (da_cons d_str (da_cons d_int da_nil))) g_law_pool__law_unlike nb__law_unlike) DPr.nil)))))))) hS
/-! law term -/
abbrev s_law_term : Stmt := top 26
theorem sc_law_term : FnScope ["_law_deck_here", "_law_pool_here", "_law_unknowns", "_law_deep", "_law_left", "_law_some", "_law_name", "_law_many", "_law_found", "_law_k", "_law_sign"] ["_law_deck_here", "_law_pool_here", "_law_unknowns", "_law_deep", "_law_left"] (defScope s_law_term) := ⟨rfl, rfl, rfl, by decide +kernel, rfl, by decide +kernel, by decide +kernel⟩
theorem v_law_term_4 : Vis (defScope s_law_term) "_law_left" := Or.inr (Or.inl (by decide +kernel))
theorem v_law_term_1 : Vis (defScope s_law_term) "_law_pool_here" := Or.inl (by decide +kernel)
theorem o_law_term_5 : (defScope s_law_term).names.lookup ("_law_some" : Str) = some NameKind.local := by decide +kernel
theorem v_law_term_2 : Vis (defScope s_law_term) "_law_unknowns" := Or.inl (by decide +kernel)
theorem v_law_term_0 : Vis (defScope s_law_term) "_law_deck_here" := Or.inl (by decide +kernel)
theorem g_law_term__law_draw : (defScope s_law_term).names.lookup ("_law_draw" : Str) = some NameKind.globalImplicit := by decide +kernel
theorem g_law_term__law_pick : (defScope s_law_term).names.lookup ("_law_pick" : Str) = some NameKind.globalImplicit := by decide +kernel
theorem v_law_term_5 : Vis (defScope s_law_term) "_law_some" := Or.inl (by decide +kernel)
theorem g_law_term_len : (defScope s_law_term).names.lookup ("len" : Str) = some NameKind.globalImplicit := by decide +kernel
theorem g_law_term_int : (defScope s_law_term).names.lookup ("int" : Str) = some NameKind.globalImplicit := by decide +kernel
theorem l_law_term_7 : Loc (defScope s_law_term) "_law_many" := Or.inl (by decide +kernel)
theorem l_law_term_6 : Loc (defScope s_law_term) "_law_name" := Or.inl (by decide +kernel)
theorem v_law_term_7 : Vis (defScope s_law_term) "_law_many" := Or.inl (by decide +kernel)
theorem v_law_term_6 : Vis (defScope s_law_term) "_law_name" := Or.inl (by decide +kernel)
theorem l_law_term_8 : Loc (defScope s_law_term) "_law_found" := Or.inl (by decide +kernel)
theorem g_law_term_range : (defScope s_law_term).names.lookup ("range" : Str) = some NameKind.globalImplicit := by decide +kernel
theorem l_law_term_9 : Loc (defScope s_law_term) "_law_k" := Or.inl (by decide +kernel)
theorem v_law_term_8 : Vis (defScope s_law_term) "_law_found" := Or.inl (by decide +kernel)
theorem v_law_term_3 : Vis (defScope s_law_term) "_law_deep" := Or.inr (Or.inl (by decide +kernel))
theorem g_law_term__law_term : (defScope s_law_term).names.lookup ("_law_term" : Str) = some NameKind.globalImplicit := by decide +kernel
theorem g_law_term_tuple : (defScope s_law_term).names.lookup ("tuple" : Str) = some NameKind.globalImplicit := by decide +kernel
def w_law_term (S_law_draw S_law_pick S_law_term : Spc) : WS :=
  (sSeq (sAsg (wOp subR (wOp ixR (wVar 4) (wC (.int 0))) (wC (.int 1))) (gIx (wVar 4) (wC (.int 0))))
  (sSeq (sAsg (wLc false (iVal (wOp dgetR (wVar 1) (wC (.str "signs")))) (gNm 10) (tOrP (tValP (wOp eqA (wOp ixR (wVar 10) (wC (.int 1))) (wC (.int 0)))) (tAndP (tValP (wOp gtR (wVar 3) (wC (.int 1)))) (tValP (wOp leR (wOp ixR (wVar 10) (wC (.int 1))) (wOp ixR (wVar 4) (wC (.int 0))))))) (wVar 10) [10]) (gNm 5))
  (sSeq (sIf (tAndP (tValP (wOp neA (wVar 2) (wLst false wNil))) (tValP (wOp eqA (wCall 2 S_law_draw (wCons (wVar 0) (wCons (wC (.int 3)) wNil))) (wC (.int 1))))) (sRet (wCall 2 S_law_pick (wCons (wVar 0) (wCons (wVar 2) wNil)))) sNext)
  (sSeq (sAsg (wCall 2 S_law_pick (wCons (wVar 0) (wCons (wSl false (wVar 5) (oSo (wCa intR (wCons (wAndT (wOp gtR (wCa lenR (wCons (wVar 5) wNil)) (wC (.int 1))) (wOp gtR (wCall 2 S_law_draw (wCons (wVar 0) (wCons (wC (.int 4)) wNil))) (wC (.int 0)))) wNil))) oNo) wNil))) (gTp 2 (gCn (gNm 6) (gCn (gNm 7) gNl))))
  (sSeq (sAsg (wOp subR (wOp ixR (wVar 4) (wC (.int 0))) (wVar 7)) (gIx (wVar 4) (wC (.int 0))))
  (sSeq (sAsg (wLst true (wCons (wVar 6) wNil)) (gNm 8))
  (sSeq (sFor (iRg1 (wCons (wVar 7) wNil)) (gNm 9)
    (sSeq (sAsg (wOp (addR false) (wOp ixR (wVar 4) (wC (.int 0))) (wC (.int 1))) (gIx (wVar 4) (wC (.int 0))))
  (sDrop (wM "list" appendR (wVar 8) (wCons (wCall 5 S_law_term (wCons (wVar 0) (wCons (wVar 1) (wCons (wVar 2) (wCons (wOp subR (wVar 3) (wC (.int 1))) (wCons (wVar 4) wNil)))))) wNil)))))
  (sRet (wCa tupleR (wCons (wVar 8) wNil))))))))))
def q_law_term : QS :=
  (.seq (.asg (.op .sub (.op .ix (.var 4) (.cst (.int 0))) (.cst (.int 1))) (.ix (.var 4) (.cst (.int 0)))) (.seq (.asg (.lc false (.val (.op .dget (.var 1) (.cst (.str "signs")))) (.nm 10) (.or (.val (.op .eq (.op .ix (.var 10) (.cst (.int 1))) (.cst (.int 0)))) (.and (.val (.op .gt (.var 3) (.cst (.int 1)))) (.val (.op .le (.op .ix (.var 10) (.cst (.int 1))) (.op .ix (.var 4) (.cst (.int 0))))))) (.var 10) [10]) (.nm 5)) (.seq (.ite (.and (.val (.op .ne (.var 2) (.lst false .nil))) (.val (.op .eq (.call 2 F_law_draw (.cons (.var 0) (.cons (.cst (.int 3)) .nil))) (.cst (.int 1))))) (.ret (.call 2 F_law_pick (.cons (.var 0) (.cons (.var 2) .nil)))) .next) (.seq (.asg (.call 2 F_law_pick (.cons (.var 0) (.cons (.sl false (.var 5) (.so (.ca .int (.cons (.andV (.op .gt (.ca .len (.cons (.var 5) .nil)) (.cst (.int 1))) (.op .gt (.call 2 F_law_draw (.cons (.var 0) (.cons (.cst (.int 4)) .nil))) (.cst (.int 0)))) .nil))) .no) .nil))) (.tp 2 (.cons (.nm 6) (.cons (.nm 7) .nil)))) (.seq (.asg (.op .sub (.op .ix (.var 4) (.cst (.int 0))) (.var 7)) (.ix (.var 4) (.cst (.int 0)))) (.seq (.asg (.lst true (.cons (.var 6) .nil)) (.nm 8)) (.seq (.for (.rg1 (.cons (.var 7) .nil)) (.nm 9) (.seq (.asg (.op (.add false) (.op .ix (.var 4) (.cst (.int 0))) (.cst (.int 1))) (.ix (.var 4) (.cst (.int 0)))) (.drop (.mt "list" .append (.var 8) (.cons (.call 5 F_law_term (.cons (.var 0) (.cons (.var 1) (.cons (.var 2) (.cons (.op .sub (.var 3) (.cst (.int 1))) (.cons (.var 4) .nil)))))) .nil))))) (.ret (.ca .tuple (.cons (.var 8) .nil))))))))))
theorem qd_law_term (φ : Nat → Spc) : q_law_term.den φ = w_law_term (φ F_law_draw) (φ F_law_pick) (φ F_law_term) := rfl
theorem ok_law_term {S_law_draw S_law_pick S_law_term : Spc} {S : Spc} {k : Nat} {f : Addr} {fd : FuncData} (F : Fun K "_law_term" "_law_term" s_law_term f fd) (T : Txt mg) (C_law_draw : Callee P w K mg base k "_law_draw" 2 S_law_draw) (C_law_pick : Callee P w K mg base k "_law_pick" 2 S_law_pick) (C_law_term : Callee P w K mg base k "_law_term" 5 S_law_term)
    (hS : ∀ xs sto Q, xs.length = 5 → S xs sto Q → w_law_term S_law_draw S_law_pick S_law_term { nx := fun _ st' => Q .non st', rt := Q } (startP ["_law_deck_here", "_law_pool_here", "_law_unknowns", "_law_deep", "_law_left", "_law_some", "_law_name", "_law_many", "_law_found", "_law_k", "_law_sign"] xs) sto) : FnG P w K mg base (k + 1) f fd ["_law_deck_here", "_law_pool_here", "_law_unknowns", "_law_deep", "_law_left"] (spOf K 5 S) :=
  fn_ok F sc_law_term rfl (fun cdv A outer s H G =>
    (ds_cons (ds_asg (d_op dop_sub (d_ix (dv 4 rfl v_law_term_4 nb__law_left nc__law_left) d_int) d_int) (dg_ix (dv 4 rfl v_law_term_4 nb__law_left nc__law_left) d_int))
    (ds_cons (ds_setLc false (i := 5) G.calm sc_law_term.nd rfl o_law_term_5 (by rfl) (di_val (d_dget G (dv 1 rfl v_law_term_1 nb__law_pool_here nc__law_pool_here) d_str)) (blkOk_by (N := ["_law_deck_here", "_law_pool_here", "_law_unknowns", "_law_deep", "_law_left", "_law_some", "_law_name", "_law_many", "_law_found", "_law_k", "_law_sign"]) (sc := defScope s_law_term) (own := [("_law_sign", 10)]) (by decide +kernel)) (fun _ _ _ _ _ => (dg_name (i := 10) sc_law_term.nd rfl (by first | exact loc_blk (Or.inl (by decide +kernel)) | exact loc_blk (Or.inr (by decide +kernel))) (by first | exact fl_blk (by decide +kernel) | exact fc_blk (by decide +kernel)))) (by decide) (fun _ _ _ _ _ => (dts_one (dt_w (dw_or (dt_cmp (dop_eqA (xgb G)) (d_ix (dv 10 rfl (by first | exact vis_blk (Or.inl (by decide +kernel)) | exact vis_blk (Or.inr (Or.inl (by decide +kernel))) | exact vis_blk (Or.inr (Or.inr (by decide +kernel)))) nb__law_sign nc__law_sign) d_int) d_int (mark_no rfl)) (dw_or1 (dt_w (dw_and (dt_cmp dop_gt (dv 3 rfl (by first | exact vis_blk (Or.inr (Or.inr (by decide +kernel))) | exact vis_blk (Or.inl (by decide +kernel)) | exact vis_blk (Or.inr (Or.inl (by decide +kernel)))) nb__law_deep nc__law_deep) d_int (mark_no rfl)) (dw_and1 (dt_cmp dop_le (d_ix (dv 10 rfl (by first | exact vis_blk (Or.inl (by decide +kernel)) | exact vis_blk (Or.inr (Or.inl (by decide +kernel))) | exact vis_blk (Or.inr (Or.inr (by decide +kernel)))) nb__law_sign nc__law_sign) d_int) (d_ix (dv 4 rfl (by first | exact vis_blk (Or.inr (Or.inr (by decide +kernel))) | exact vis_blk (Or.inl (by decide +kernel)) | exact vis_blk (Or.inr (Or.inl (by decide +kernel)))) nb__law_left nc__law_left) d_int) (mark_no rfl)))))))))) (fun _ _ _ _ _ => (dv 10 rfl (by first | exact vis_blk (Or.inl (by decide +kernel)) | exact vis_blk (Or.inr (Or.inl (by decide +kernel))) | exact vis_blk (Or.inr (Or.inr (by decide +kernel)))) nb__law_sign nc__law_sign)))
    (ds_cons (ds_if (dt_w (dw_and (dt_cmp (dop_neA G) (dv 2 rfl v_law_term_2 nb__law_unknowns nc__law_unknowns) (d_lst false da_nil) (mark_no rfl)) (dw_and1 (dt_cmp (dop_eqA G) (d_callC C_law_draw G (da_cons (dv 0 rfl v_law_term_0 nb__law_deck_here nc__law_deck_here) (da_cons d_int da_nil)) g_law_term__law_draw nb__law_draw) d_int (mark_no rfl))))) (ds_one (ds_ret (d_callC C_law_pick G (da_cons (dv 0 rfl v_law_term_0 nb__law_deck_here nc__law_deck_here) (da_cons (dv 2 rfl v_law_term_2 nb__law_unknowns nc__law_unknowns) da_nil)) g_law_term__law_pick nb__law_pick))) ds_nil)
    (ds_cons (ds_asg (d_callC C_law_pick G (da_cons (dv 0 rfl v_law_term_0 nb__law_deck_here nc__law_deck_here) (da_cons (d_slice false (dv 5 rfl v_law_term_5 nb__law_some nc__law_some) (do_so (d_callTy dca_int g_law_term_int T.m_int bt_int (da_cons (d_and (d_cmp dop_gt (d_callB dca_len g_law_term_len T.m_len bt_len (da_cons (dv 5 rfl v_law_term_5 nb__law_some nc__law_some) da_nil) nn_len nb_len) d_int (mark_no rfl)) (d_one (d_cmp dop_gt (d_callC C_law_draw G (da_cons (dv 0 rfl v_law_term_0 nb__law_deck_here nc__law_deck_here) (da_cons d_int da_nil)) g_law_term__law_draw nb__law_draw) d_int (mark_no rfl)))) da_nil) nn_int nb_int)) do_no) da_nil)) g_law_term__law_pick nb__law_pick) (dg_tup G.calm (dgs_cons (dg_name (i := 6) sc_law_term.nd rfl l_law_term_6 (Or.inl rfl)) (dgs_cons (dg_name (i := 7) sc_law_term.nd rfl l_law_term_7 (Or.inl rfl)) dgs_nil))))
    (ds_cons (ds_asg (d_op dop_sub (d_ix (dv 4 rfl v_law_term_4 nb__law_left nc__law_left) d_int) (dv 7 rfl v_law_term_7 nb__law_many nc__law_many)) (dg_ix (dv 4 rfl v_law_term_4 nb__law_left nc__law_left) d_int))
    (ds_cons (ds_set (i := 8) sc_law_term.nd rfl l_law_term_8 (d_lst true (da_cons (dv 6 rfl v_law_term_6 nb__law_name nc__law_name) da_nil)) (by exact swaps_no rfl) (Or.inl rfl))
    (ds_cons (ds_for PassesOwn.never G.calm (di_rng1 g_law_term_range T.m_range (da_cons (dv 7 rfl v_law_term_7 nb__law_many nc__law_many) da_nil)) (dg_name (i := 9) sc_law_term.nd rfl l_law_term_9 (Or.inl rfl)) (ds_cons (ds_asg (d_op (dop_add false) (d_ix (dv 4 rfl v_law_term_4 nb__law_left nc__law_left) d_int) d_int) (dg_ix (dv 4 rfl v_law_term_4 nb__law_left nc__law_left) d_int))
    (ds_one (ds_expr (d_m PySem.F.plainAttrs_list PySem.F.slot_list_append PySem.F.type_list_append dm_append (dv 8 rfl v_law_term_8 nb__law_found nc__law_found) (da_cons (d_callC C_law_term G (da_cons (dv 0 rfl v_law_term_0 nb__law_deck_here nc__law_deck_here) (da_cons (dv 1 rfl v_law_term_1 nb__law_pool_here nc__law_pool_here) (da_cons (dv 2 rfl v_law_term_2 nb__law_unknowns nc__law_unknowns) (da_cons (d_op dop_sub (dv 3 rfl v_law_term_3 nb__law_deep nc__law_deep) d_int) (da_cons (dv 4 rfl v_law_term_4 nb__law_left nc__law_left) da_nil))))) g_law_term__law_term nb__law_term) da_nil))))))
    (ds_one (ds_ret (d_callTy dca_tuple g_law_term_tuple T.m_tuple bt_tuple (da_cons (dv 8 rfl v_law_term_8 nb__law_found nc__law_found) da_nil) nn_tuple nb_tuple))))))))))) hS
/-! law some term -/
abbrev s_law_some_term : Stmt := top 27
theorem sc_law_some_term : FnScope ["_law_deck_here", "_law_pool_here", "_law_great", "_law_deep"] ["_law_deck_here", "_law_pool_here"] (defScope s_law_some_term) := ⟨rfl, rfl, rfl, by decide +kernel, rfl, by decide +kernel, by decide +kernel⟩
theorem v_law_some_term_0 : Vis (defScope s_law_some_term) "_law_deck_here" := Or.inl (by decide +kernel)
theorem g_law_some_term__law_draw : (defScope s_law_some_term).names.lookup ("_law_draw" : Str) = some NameKind.globalImplicit := by decide +kernel
theorem g_law_some_term_int : (defScope s_law_some_term).names.lookup ("int" : Str) = some NameKind.globalImplicit := by decide +kernel
theorem l_law_some_term_2 : Loc (defScope s_law_some_term) "_law_great" := Or.inl (by decide +kernel)
theorem v_law_some_term_2 : Vis (defScope s_law_some_term) "_law_great" := Or.inl (by decide +kernel)
theorem l_law_some_term_3 : Loc (defScope s_law_some_term) "_law_deep" := Or.inl (by decide +kernel)
theorem v_law_some_term_1 : Vis (defScope s_law_some_term) "_law_pool_here" := Or.inl (by decide +kernel)
theorem v_law_some_term_3 : Vis (defScope s_law_some_term) "_law_deep" := Or.inl (by decide +kernel)
theorem g_law_some_term__law_term : (defScope s_law_some_term).names.lookup ("_law_term" : Str) = some NameKind.globalImplicit := by decide +kernel
def w_law_some_term (S_law_draw S_law_term : Spc) : WS :=
  (sSeq (sAsg (wCa intR (wCons (wOp eqA (wCall 2 S_law_draw (wCons (wVar 0) (wCons (wC (.int 8)) wNil))) (wC (.int 5))) wNil)) (gNm 2))
  (sSeq (sAsg (wOp ixR (wLst false (wCons (wOp (addR false) (wC (.int 1)) (wCall 2 S_law_draw (wCons (wVar 0) (wCons (wC (.int 4)) wNil)))) (wCons (wC (.int 8)) wNil))) (wVar 2)) (gNm 3))
  (sRet (wCall 5 S_law_term (wCons (wVar 0) (wCons (wVar 1) (wCons (wOp dgetR (wVar 1) (wC (.str "unknowns"))) (wCons (wVar 3) (wCons (wLst true (wCons (wOp ixR (wLst false (wCons (wOp (addR false) (wC (.int 1)) (wCall 2 S_law_draw (wCons (wVar 0) (wCons (wC (.int 9)) wNil)))) (wCons (wC (.int 30)) wNil))) (wVar 2)) wNil)) wNil)))))))))
def q_law_some_term : QS :=
  (.seq (.asg (.ca .int (.cons (.op .eq (.call 2 F_law_draw (.cons (.var 0) (.cons (.cst (.int 8)) .nil))) (.cst (.int 5))) .nil)) (.nm 2)) (.seq (.asg (.op .ix (.lst false (.cons (.op (.add false) (.cst (.int 1)) (.call 2 F_law_draw (.cons (.var 0) (.cons (.cst (.int 4)) .nil)))) (.cons (.cst (.int 8)) .nil))) (.var 2)) (.nm 3)) (.ret (.call 5 F_law_term (.cons (.var 0) (.cons (.var 1) (.cons (.op .dget (.var 1) (.cst (.str "unknowns"))) (.cons (.var 3) (.cons (.lst true (.cons (.op .ix (.lst false (.cons (.op (.add false) (.cst (.int 1)) (.call 2 F_law_draw (.cons (.var 0) (.cons (.cst (.int 9)) .nil)))) (.cons (.cst (.int 30)) .nil))) (.var 2)) .nil)) .nil)))))))))
theorem qd_law_some_term (φ : Nat → Spc) : q_law_some_term.den φ = w_law_some_term (φ F_law_draw) (φ F_law_term) := rfl
theorem ok_law_some_term {S_law_draw S_law_term : Spc} {S : Spc} {k : Nat} {f : Addr} {fd : FuncData} (F : Fun K "_law_some_term" "_law_some_term" s_law_some_term f fd) (T : Txt mg) (C_law_draw : Callee P w K mg base k "_law_draw" 2 S_law_draw) (C_law_term : Callee P w K mg base k "_law_term" 5 S_law_term)
    (hS : ∀ xs sto Q, xs.length = 2 → S xs sto Q → w_law_some_term S_law_draw S_law_term { nx := fun _ st' => Q .non st', rt := Q } (startP ["_law_deck_here", "_law_pool_here", "_law_great", "_law_deep"] xs) sto) : FnG P w K mg base (k + 1) f fd ["_law_deck_here", "_law_pool_here"] (spOf K 2 S) :=
  fn_ok F sc_law_some_term rfl (fun cdv A outer s H G =>
    (ds_cons (ds_set (i := 2) sc_law_some_term.nd rfl l_law_some_term_2 (d_callTy dca_int g_law_some_term_int T.m_int bt_int (da_cons (d_cmp (dop_eqA G) (d_callC C_law_draw G (da_cons (dv 0 rfl v_law_some_term_0 nb__law_deck_here nc__law_deck_here) (da_cons d_int da_nil)) g_law_some_term__law_draw nb__law_draw) d_int (mark_no rfl)) da_nil) nn_int nb_int) (by exact swaps_no rfl) (Or.inl rfl))
    (ds_cons (ds_set (i := 3) sc_law_some_term.nd rfl l_law_some_term_3 (d_ix (d_lst false (da_cons (d_op (dop_add false) d_int (d_callC C_law_draw G (da_cons (dv 0 rfl v_law_some_term_0 nb__law_deck_here nc__law_deck_here) (da_cons d_int da_nil)) g_law_some_term__law_draw nb__law_draw)) (da_cons d_int da_nil))) (dv 2 rfl v_law_some_term_2 nb__law_great nc__law_great)) (by exact swaps_no rfl) (Or.inl rfl))
    (ds_one (ds_ret (d_callC C_law_term G (da_cons (dv 0 rfl v_law_some_term_0 nb__law_deck_here nc__law_deck_here) (da_cons (dv 1 rfl v_law_some_term_1 nb__law_pool_here nc__law_pool_here) (da_cons (d_dget G (dv 1 rfl v_law_some_term_1 nb__law_pool_here nc__law_pool_here) d_str) (da_cons (dv 3 rfl v_law_some_term_3 nb__law_deep nc__law_deep) (da_cons (d_lst true (da_cons (d_ix (d_lst false (da_cons (d_op (dop_add false) d_int (d_callC C_law_draw G (da_cons (dv 0 rfl v_law_some_term_0 nb__law_deck_here nc__law_deck_here) (da_cons d_int da_nil)) g_law_some_term__law_draw nb__law_draw)) (da_cons d_int da_nil))) (dv 2 rfl v_law_some_term_2 nb__law_great nc__law_great)) da_nil)) da_nil))))) g_law_some_term__law_term nb__law_term)))))) hS
/-! law text -/
abbrev s_law_text : Stmt := top 28
theorem sc_law_text : FnScope ["_law_term_here", "_law_inner", "_law_one"] ["_law_term_here"] (defScope s_law_text) := ⟨rfl, rfl, rfl, by decide +kernel, rfl, by decide +kernel, by decide +kernel⟩
theorem v_law_text_0 : Vis (defScope s_law_text) "_law_term_here" := Or.inl (by decide +kernel)
theorem g_law_text_isinstance : (defScope s_law_text).names.lookup ("isinstance" : Str) = some NameKind.globalImplicit := by decide +kernel
theorem g_law_text_str : (defScope s_law_text).names.lookup ("str" : Str) = some NameKind.globalImplicit := by decide +kernel
theorem l_law_text_1 : Loc (defScope s_law_text) "_law_inner" := Or.inl (by decide +kernel)
theorem v_law_text_1 : Vis (defScope s_law_text) "_law_inner" := Or.inl (by decide +kernel)
theorem g_law_text_int : (defScope s_law_text).names.lookup ("int" : Str) = some NameKind.globalImplicit := by decide +kernel
def w_law_text (S_law_text : Spc) : WS :=
  (sSeq (sIf (tTru (wIsi "str" (wVar 0))) (sRet (wVar 0)) sNext)
  (sSeq (sAsg (wM "str" joinR (wC (.str ",")) (wCons (wLc false (iVal (wSl false (wVar 0) (oSo (wC (.int 1))) oNo)) (gNm 2) tYesP (wCall 1 S_law_text (wCons (wVar 2) wNil)) [2]) wNil)) (gNm 1))
  (sRet (wOp (addR false) (wOp ixR (wVar 0) (wC (.int 0))) (wOp mulR (wOp (addR false) (wOp (addR false) (wC (.str "(")) (wVar 1)) (wC (.str ")"))) (wCa intR (wCons (wOp neA (wVar 1) (wC (.str ""))) wNil)))))))
def q_law_text : QS :=
  (.seq (.ite (.tru (.isi "str" (.var 0))) (.ret (.var 0)) .next) (.seq (.asg (.mt "str" .join (.cst (.str ",")) (.cons (.lc false (.val (.sl false (.var 0) (.so (.cst (.int 1))) .no)) (.nm 2) .yes (.call 1 F_law_text (.cons (.var 2) .nil)) [2]) .nil)) (.nm 1)) (.ret (.op (.add false) (.op .ix (.var 0) (.cst (.int 0))) (.op .mul (.op (.add false) (.op (.add false) (.cst (.str "(")) (.var 1)) (.cst (.str ")"))) (.ca .int (.cons (.op .ne (.var 1) (.cst (.str ""))) .nil)))))))
theorem qd_law_text (φ : Nat → Spc) : q_law_text.den φ = w_law_text (φ F_law_text) := rfl
theorem ok_law_text {S_law_text : Spc} {S : Spc} {k : Nat} {f : Addr} {fd : FuncData} (F : Fun K "_law_text" "_law_text" s_law_text f fd) (T : Txt mg) (C_law_text : Callee P w K mg base k "_law_text" 1 S_law_text)
    (hS : ∀ xs sto Q, xs.length = 1 → S xs sto Q → w_law_text S_law_text { nx := fun _ st' => Q .non st', rt := Q } (startP ["_law_term_here", "_law_inner", "_law_one"] xs) sto) : FnG P w K mg base (k + 1) f fd ["_law_term_here"] (spOf K 1 S) :=
  fn_ok F sc_law_text rfl (fun cdv A outer s H G =>
    (ds_cons (ds_if (dt_tru (d_isi it_str g_law_text_isinstance T.m_isinstance g_law_text_str T.m_str bt_str (dv 0 rfl v_law_text_0 nb__law_term_here nc__law_term_here) nn_str nb_str)) (ds_one (ds_ret (dv 0 rfl v_law_text_0 nb__law_term_here nc__law_term_here))) ds_nil)
    (ds_cons (ds_set (i := 1) sc_law_text.nd rfl l_law_text_1 (d_m PySem.F.plainAttrs_str PySem.F.slot_str_join PySem.F.type_str_join dm_join d_str (da_cons (d_lc false G.calm sc_law_text.nd (di_val (d_slice false (dv 0 rfl v_law_text_0 nb__law_term_here nc__law_term_here) (do_so d_int) do_no)) (blkOk_by (N := ["_law_term_here", "_law_inner", "_law_one"]) (sc := defScope s_law_text) (own := [("_law_one", 2)]) (by decide +kernel)) (fun _ _ _ _ _ => (dg_name (i := 2) sc_law_text.nd rfl (by first | exact loc_blk (Or.inl (by decide +kernel)) | exact loc_blk (Or.inr (by decide +kernel))) (by first | exact fl_blk (by decide +kernel) | exact fc_blk (by decide +kernel)))) (by decide) (fun _ _ _ _ _ => dts_nil) (fun _ _ _ _ _ => (d_callC C_law_text (xgb G) (da_cons (dv 2 rfl (by first | exact vis_blk (Or.inl (by decide +kernel)) | exact vis_blk (Or.inr (Or.inl (by decide +kernel))) | exact vis_blk (Or.inr (Or.inr (by decide +kernel)))) nb__law_one nc__law_one) da_nil) (gl_blk (by decide +kernel)) nb__law_text))) da_nil)) (by exact swaps_no rfl) (Or.inl rfl))
    (ds_one (ds_ret (d_op (dop_add false) (d_ix (dv 0 rfl v_law_text_0 nb__law_term_here nc__law_term_here) d_int) (d_op dop_mul (d_op (dop_add false) (d_op (dop_add false) d_str (dv 1 rfl v_law_text_1 nb__law_inner nc__law_inner)) d_str) (d_callTy dca_int g_law_text_int T.m_int bt_int (da_cons (d_cmp (dop_neA G) (dv 1 rfl v_law_text_1 nb__law_inner nc__law_inner) d_str (mark_no rfl)) da_nil) nn_int nb_int)))))))) hS
/-! law great terms -/
abbrev s_law_great_terms : Stmt := top 29
theorem sc_law_great_terms : FnScope ["_law_deck_here", "_law_t", "_law_s", "_law_a", "_law_wide", "_law_deep", "_law_k"] ["_law_deck_here"] (defScope s_law_great_terms) := ⟨rfl, rfl, rfl, by decide +kernel, rfl, by decide +kernel, by decide +kernel⟩
theorem v_law_great_terms_0 : Vis (defScope s_law_great_terms) "_law_deck_here" := Or.inl (by decide +kernel)
theorem g_law_great_terms__law_unlike : (defScope s_law_great_terms).names.lookup ("_law_unlike" : Str) = some NameKind.globalImplicit := by decide +kernel
theorem l_law_great_terms_3 : Loc (defScope s_law_great_terms) "_law_a" := Or.inl (by decide +kernel)
theorem l_law_great_terms_2 : Loc (defScope s_law_great_terms) "_law_s" := Or.inl (by decide +kernel)
theorem l_law_great_terms_1 : Loc (defScope s_law_great_terms) "_law_t" := Or.inl (by decide +kernel)
theorem v_law_great_terms_3 : Vis (defScope s_law_great_terms) "_law_a" := Or.inl (by decide +kernel)
theorem o_law_great_terms_4 : (defScope s_law_great_terms).names.lookup ("_law_wide" : Str) = some NameKind.local := by decide +kernel
theorem o_law_great_terms_5 : (defScope s_law_great_terms).names.lookup ("_law_deep" : Str) = some NameKind.local := by decide +kernel
theorem g_law_great_terms_range : (defScope s_law_great_terms).names.lookup ("range" : Str) = some NameKind.globalImplicit := by decide +kernel
theorem l_law_great_terms_6 : Loc (defScope s_law_great_terms) "_law_k" := Or.inl (by decide +kernel)
theorem v_law_great_terms_4 : Vis (defScope s_law_great_terms) "_law_wide" := Or.inl (by decide +kernel)
theorem v_law_great_terms_1 : Vis (defScope s_law_great_terms) "_law_t" := Or.inl (by decide +kernel)
theorem v_law_great_terms_5 : Vis (defScope s_law_great_terms) "_law_deep" := Or.inl (by decide +kernel)
theorem v_law_great_terms_2 : Vis (defScope s_law_great_terms) "_law_s" := Or.inl (by decide +kernel)
def w_law_great_terms (S_law_unlike : Spc) : WS :=
  (sSeq (sAsg (wCall 3 S_law_unlike (wCons (wVar 0) (wCons (wC (.str "abcdefghijklmnopqrstuvwxyz")) (wCons (wC (.int 3)) wNil)))) (gUl 3 (gCn (gNm 1) (gCn (gNm 2) (gCn (gNm 3) gNl)))))
  (sSeq (sPar 4 5 (wCons (wLst true (wCons (wTup (wCons (wVar 3) wNil)) wNil)) (wCons (wLst true (wCons (wC (.str "X")) wNil)) wNil)))
  (sSeq (sFor (iRg1 (wCons (wC (.int 5)) wNil)) (gNm 6)
    (sDrop (wM "list" appendR (wVar 4) (wCons (wTup (wCons (wVar 1) (wCons (wOp ixR (wVar 4) (wNeg (wC (.int 1)))) (wCons (wOp ixR (wVar 4) (wNeg (wC (.int 1)))) (wCons (wOp ixR (wVar 4) (wNeg (wC (.int 1)))) wNil))))) wNil))))
  (sSeq (sFor (iRg1 (wCons (wC (.int 24)) wNil)) (gNm 6)
    (sDrop (wM "list" appendR (wVar 5) (wCons (wTup (wCons (wVar 2) (wCons (wOp ixR (wVar 5) (wNeg (wC (.int 1)))) wNil))) wNil))))
  (sRet (wLst false (wCons (wOp ixR (wVar 4) (wC (.int 3))) (wCons (wOp ixR (wVar 4) (wC (.int 5))) (wCons (wOp ixR (wVar 5) (wC (.int 8))) (wCons (wOp ixR (wVar 5) (wC (.int 24))) (wCons (wTup (wCons (wVar 1) (wCons (wTup (wCons (wVar 1) (wCons (wC (.str "A")) (wCons (wC (.str "B")) (wCons (wC (.str "C")) wNil))))) (wCons (wTup (wCons (wVar 1) (wCons (wC (.str "D")) (wCons (wC (.str "E")) (wCons (wC (.str "F")) wNil))))) (wCons (wC (.str "A")) wNil))))) wNil)))))))))))
def q_law_great_terms : QS :=
  (.seq (.asg (.call 3 F_law_unlike (.cons (.var 0) (.cons (.cst (.str "abcdefghijklmnopqrstuvwxyz")) (.cons (.cst (.int 3)) .nil)))) (.ul 3 (.cons (.nm 1) (.cons (.nm 2) (.cons (.nm 3) .nil))))) (.seq (.par 4 5 (.cons (.lst true (.cons (.tup (.cons (.var 3) .nil)) .nil)) (.cons (.lst true (.cons (.cst (.str "X")) .nil)) .nil))) (.seq (.for (.rg1 (.cons (.cst (.int 5)) .nil)) (.nm 6) (.drop (.mt "list" .append (.var 4) (.cons (.tup (.cons (.var 1) (.cons (.op .ix (.var 4) (.neg (.cst (.int 1)))) (.cons (.op .ix (.var 4) (.neg (.cst (.int 1)))) (.cons (.op .ix (.var 4) (.neg (.cst (.int 1)))) .nil))))) .nil)))) (.seq (.for (.rg1 (.cons (.cst (.int 24)) .nil)) (.nm 6) (.drop (.mt "list" .append (.var 5) (.cons (.tup (.cons (.var 2) (.cons (.op .ix (.var 5) (.neg (.cst (.int 1)))) .nil))) .nil)))) (.ret (.lst false (.cons (.op .ix (.var 4) (.cst (.int 3))) (.cons (.op .ix (.var 4) (.cst (.int 5))) (.cons (.op .ix (.var 5) (.cst (.int 8))) (.cons (.op .ix (.var 5) (.cst (.int 24))) (.cons (.tup (.cons (.var 1) (.cons (.tup (.cons (.var 1) (.cons (.cst (.str "A")) (.cons (.cst (.str "B")) (.cons (.cst (.str "C")) .nil))))) (.cons (.tup (.cons (.var 1) (.cons (.cst (.str "D")) (.cons (.cst (.str "E")) (.cons (.cst (.str "F")) .nil))))) (.cons (.cst (.str "A")) .nil))))) .nil)))))))))))
theorem qd_law_great_terms (φ : Nat → Spc) : q_law_great_terms.den φ = w_law_great_terms (φ F_law_unlike) := rfl
theorem ok_law_great_terms {S_law_unlike : Spc} {S : Spc} {k : Nat} {f : Addr} {fd : FuncData} (F : Fun K "_law_great_terms" "_law_great_terms" s_law_great_terms f fd) (T : Txt mg) (C_law_unlike : Callee P w K mg base k "_law_unlike" 3 S_law_unlike)
    (hS : ∀ xs sto Q, xs.length = 1 → S xs sto Q → w_law_great_terms S_law_unlike { nx := fun _ st' => Q .non st', rt := Q } (startP ["_law_deck_here", "_law_t", "_law_s", "_law_a", "_law_wide", "_law_deep", "_law_k"] xs) sto) : FnG P w K mg base (k + 1) f fd ["_law_deck_here"] (spOf K 1 S) :=
  fn_ok F sc_law_great_terms rfl (fun cdv A outer s H G =>
    (ds_cons (ds_asg (d_callC C_law_unlike G (da_cons (dv 0 rfl v_law_great_terms_0 nb__law_deck_here nc__law_deck_here) (da_cons d_str (da_cons d_int da_nil))) g_law_great_terms__law_unlike nb__law_unlike) (dg_ul G.calm (dgs_cons (dg_name (i := 1) sc_law_great_terms.nd rfl l_law_great_terms_1 (Or.inl rfl)) (dgs_cons (dg_name (i := 2) sc_law_great_terms.nd rfl l_law_great_terms_2 (Or.inl rfl)) (dgs_cons (dg_name (i := 3) sc_law_great_terms.nd rfl l_law_great_terms_3 (Or.inl rfl)) dgs_nil)))))
    (ds_cons (ds_par (i := 4) (j := 5) G.calm sc_law_great_terms.nd rfl rfl (by decide) o_law_great_terms_4 o_law_great_terms_5 (da_cons (d_lst true (da_cons (d_tup (da_cons (dv 3 rfl v_law_great_terms_3 nb__law_a nc__law_a) da_nil)) da_nil)) (da_cons (d_lst true (da_cons d_str da_nil)) da_nil)) (by rfl))
    (ds_cons (ds_for PassesOwn.never G.calm (di_rng1 g_law_great_terms_range T.m_range (da_cons d_int da_nil)) (dg_name (i := 6) sc_law_great_terms.nd rfl l_law_great_terms_6 (Or.inl rfl)) (ds_one (ds_expr (d_m PySem.F.plainAttrs_list PySem.F.slot_list_append PySem.F.type_list_append dm_append (dv 4 rfl v_law_great_terms_4 nb__law_wide nc__law_wide) (da_cons (d_tup (da_cons (dv 1 rfl v_law_great_terms_1 nb__law_t nc__law_t) (da_cons (d_ix (dv 4 rfl v_law_great_terms_4 nb__law_wide nc__law_wide) (d_neg d_int)) (da_cons (d_ix (dv 4 rfl v_law_great_terms_4 nb__law_wide nc__law_wide) (d_neg d_int)) (da_cons (d_ix (dv 4 rfl v_law_great_terms_4 nb__law_wide nc__law_wide) (d_neg d_int)) da_nil))))) da_nil)))))
    (ds_cons (ds_for PassesOwn.never G.calm (di_rng1 g_law_great_terms_range T.m_range (da_cons d_int da_nil)) (dg_name (i := 6) sc_law_great_terms.nd rfl l_law_great_terms_6 (Or.inl rfl)) (ds_one (ds_expr (d_m PySem.F.plainAttrs_list PySem.F.slot_list_append PySem.F.type_list_append dm_append (dv 5 rfl v_law_great_terms_5 nb__law_deep nc__law_deep) (da_cons (d_tup (da_cons (dv 2 rfl v_law_great_terms_2 nb__law_s nc__law_s) (da_cons (d_ix (dv 5 rfl v_law_great_terms_5 nb__law_deep nc__law_deep) (d_neg d_int)) da_nil))) da_nil)))))
    (ds_one (ds_ret (d_lst false (da_cons (d_ix (dv 4 rfl v_law_great_terms_4 nb__law_wide nc__law_wide) d_int) (da_cons (d_ix (dv 4 rfl v_law_great_terms_4 nb__law_wide nc__law_wide) d_int) (da_cons (d_ix (dv 5 rfl v_law_great_terms_5 nb__law_deep nc__law_deep) d_int) (da_cons (d_ix (dv 5 rfl v_law_great_terms_5 nb__law_deep nc__law_deep) d_int) (da_cons (d_tup (da_cons (dv 1 rfl v_law_great_terms_1 nb__law_t nc__law_t) (da_cons (d_tup (da_cons (dv 1 rfl v_law_great_terms_1 nb__law_t nc__law_t) (da_cons d_str (da_cons d_str (da_cons d_str da_nil))))) (da_cons (d_tup (da_cons (dv 1 rfl v_law_great_terms_1 nb__law_t nc__law_t) (da_cons d_str (da_cons d_str (da_cons d_str da_nil))))) (da_cons d_str da_nil))))) da_nil))))))))))))) hS
/-! law right -/
abbrev s_law_right : Stmt := top 30
theorem sc_law_right : FnScope ["_law_term_here", "_law_kept", "_law_text_here"] ["_law_term_here"] (defScope s_law_right) := ⟨rfl, rfl, rfl, by decide +kernel, rfl, by decide +kernel, by decide +kernel⟩
theorem v_law_right_0 : Vis (defScope s_law_right) "_law_term_here" := Or.inl (by decide +kernel)
theorem g_law_right_repr : (defScope s_law_right).names.lookup ("repr" : Str) = some NameKind.globalImplicit := by decide +kernel
theorem g_law_right__law_text : (defScope s_law_right).names.lookup ("_law_text" : Str) = some NameKind.globalImplicit := by decide +kernel
theorem o_law_right_1 : (defScope s_law_right).names.lookup ("_law_kept" : Str) = some NameKind.local := by decide +kernel
theorem o_law_right_2 : (defScope s_law_right).names.lookup ("_law_text_here" : Str) = some NameKind.local := by decide +kernel
theorem g_law_right_show_term : (defScope s_law_right).names.lookup ("show_term" : Str) = some NameKind.globalImplicit := by decide +kernel
theorem v_law_right_2 : Vis (defScope s_law_right) "_law_text_here" := Or.inl (by decide +kernel)
theorem g_law_right_read_term : (defScope s_law_right).names.lookup ("read_term" : Str) = some NameKind.globalImplicit := by decide +kernel
theorem v_law_right_1 : Vis (defScope s_law_right) "_law_kept" := Or.inl (by decide +kernel)
def w_law_right (S_law_text S_show_term S_read_term : Spc) : WS :=
  (sSeq (sPar 1 2 (wCons (wCa reprR (wCons (wVar 0) wNil)) (wCons (wCall 1 S_law_text (wCons (wVar 0) wNil)) wNil)))
  (sSeq (sIf (tOrP (tValP (wOp neA (wCa reprR (wCons (wCall 1 S_show_term (wCons (wVar 0) wNil)) wNil)) (wCa reprR (wCons (wVar 2) wNil)))) (tValP (wOp neA (wCa reprR (wCons (wCall 1 S_read_term (wCons (wVar 2) wNil)) wNil)) (wVar 1)))) (sRet (wC (.bl false))) sNext)
  (sRet (wOp eqA (wCa reprR (wCons (wVar 0) wNil)) (wVar 1)))))
def q_law_right : QS :=
  (.seq (.par 1 2 (.cons (.ca .repr (.cons (.var 0) .nil)) (.cons (.call 1 F_law_text (.cons (.var 0) .nil)) .nil))) (.seq (.ite (.or (.val (.op .ne (.ca .repr (.cons (.call 1 F_show_term (.cons (.var 0) .nil)) .nil)) (.ca .repr (.cons (.var 2) .nil)))) (.val (.op .ne (.ca .repr (.cons (.call 1 F_read_term (.cons (.var 2) .nil)) .nil)) (.var 1)))) (.ret (.cst (.bl false))) .next) (.ret (.op .eq (.ca .repr (.cons (.var 0) .nil)) (.var 1)))))
theorem qd_law_right (φ : Nat → Spc) : q_law_right.den φ = w_law_right (φ F_law_text) (φ F_show_term) (φ F_read_term) := rfl
theorem ok_law_right {S_law_text S_show_term S_read_term : Spc} {S : Spc} {k : Nat} {f : Addr} {fd : FuncData} (F : Fun K "_law_right" "_law_right" s_law_right f fd) (T : Txt mg) (C_law_text : Callee P w K mg base k "_law_text" 1 S_law_text) (C_show_term : Callee P w K mg base k "show_term" 1 S_show_term) (C_read_term : Callee P w K mg base k "read_term" 1 S_read_term)
    (hS : ∀ xs sto Q, xs.length = 1 → S xs sto Q → w_law_right S_law_text S_show_term S_read_term { nx := fun _ st' => Q .non st', rt := Q } (startP ["_law_term_here", "_law_kept", "_law_text_here"] xs) sto) : FnG P w K mg base (k + 1) f fd ["_law_term_here"] (spOf K 1 S) :=
  fn_ok F sc_law_right rfl (fun cdv A outer s H G =>
    (ds_cons (ds_par (i := 1) (j := 2) G.calm sc_law_right.nd rfl rfl (by decide) o_law_right_1 o_law_right_2 (da_cons (d_callB (dca_repr G) g_law_right_repr T.m_repr bt_repr (da_cons (dv 0 rfl v_law_right_0 nb__law_term_here nc__law_term_here) da_nil) nn_repr nb_repr) (da_cons (d_callC C_law_text G (da_cons (dv 0 rfl v_law_right_0 nb__law_term_here nc__law_term_here) da_nil) g_law_right__law_text nb__law_text) da_nil)) (by rfl))
    (ds_cons (ds_if (dt_w (dw_or (dt_cmp (dop_neA G) (d_callB (dca_repr G) g_law_right_repr T.m_repr bt_repr (da_cons (d_callC C_show_term G (da_cons (dv 0 rfl v_law_right_0 nb__law_term_here nc__law_term_here) da_nil) g_law_right_show_term nb_show_term) da_nil) nn_repr nb_repr) (d_callB (dca_repr G) g_law_right_repr T.m_repr bt_repr (da_cons (dv 2 rfl v_law_right_2 nb__law_text_here nc__law_text_here) da_nil) nn_repr nb_repr) (mark_no rfl)) (dw_or1 (dt_cmp (dop_neA G) (d_callB (dca_repr G) g_law_right_repr T.m_repr bt_repr (da_cons (d_callC C_read_term G (da_cons (dv 2 rfl v_law_right_2 nb__law_text_here nc__law_text_here) da_nil) g_law_right_read_term nb_read_term) da_nil) nn_repr nb_repr) (dv 1 rfl v_law_right_1 nb__law_kept nc__law_kept) (mark_no rfl))))) (ds_one (ds_ret d_bl)) ds_nil)
    (ds_one (ds_ret (d_cmp (dop_eqA G) (d_callB (dca_repr G) g_law_right_repr T.m_repr bt_repr (da_cons (dv 0 rfl v_law_right_0 nb__law_term_here nc__law_term_here) da_nil) nn_repr nb_repr) (dv 1 rfl v_law_right_1 nb__law_kept nc__law_kept) (mark_no rfl))))))) hS
/-! law -/
abbrev s_law : Stmt := top 31
theorem sc_law : FnScope ["_law_script", "_law_cell", "_law_deck_here", "_law_pool_here", "_law_k", "_law_some", "_law_term_here", "_law_one", "_law_other", "_law_deep", "_law_told"] ["_law_script"] (defScope s_law) := ⟨rfl, rfl, rfl, by decide +kernel, rfl, by decide +kernel, by decide +kernel⟩
theorem v_law_0 : Vis (defScope s_law) "_law_script" := Or.inl (by decide +kernel)
theorem l_law_1 : Loc (defScope s_law) "_law_cell" := Or.inl (by decide +kernel)
theorem v_law_1 : Vis (defScope s_law) "_law_cell" := Or.inl (by decide +kernel)
theorem g_law__law_deck : (defScope s_law).names.lookup ("_law_deck" : Str) = some NameKind.globalImplicit := by decide +kernel
theorem l_law_2 : Loc (defScope s_law) "_law_deck_here" := Or.inr (by decide +kernel)
theorem v_law_2 : Vis (defScope s_law) "_law_deck_here" := Or.inr (Or.inl (by decide +kernel))
theorem g_law__law_pool : (defScope s_law).names.lookup ("_law_pool" : Str) = some NameKind.globalImplicit := by decide +kernel
theorem l_law_3 : Loc (defScope s_law) "_law_pool_here" := Or.inr (by decide +kernel)
theorem g_law_range : (defScope s_law).names.lookup ("range" : Str) = some NameKind.globalImplicit := by decide +kernel
theorem v_law_3 : Vis (defScope s_law) "_law_pool_here" := Or.inr (Or.inl (by decide +kernel))
theorem l_law_5 : Loc (defScope s_law) "_law_some" := Or.inl (by decide +kernel)
theorem v_law_5 : Vis (defScope s_law) "_law_some" := Or.inl (by decide +kernel)
theorem l_law_6 : Loc (defScope s_law) "_law_term_here" := Or.inl (by decide +kernel)
theorem v_law_6 : Vis (defScope s_law) "_law_term_here" := Or.inl (by decide +kernel)
theorem g_law__law_right : (defScope s_law).names.lookup ("_law_right" : Str) = some NameKind.globalImplicit := by decide +kernel
theorem l_law_7 : Loc (defScope s_law) "_law_one" := Or.inl (by decide +kernel)
theorem l_law_8 : Loc (defScope s_law) "_law_other" := Or.inl (by decide +kernel)
theorem v_law_7 : Vis (defScope s_law) "_law_one" := Or.inl (by decide +kernel)
theorem g_law_show_term : (defScope s_law).names.lookup ("show_term" : Str) = some NameKind.globalImplicit := by decide +kernel
theorem v_law_8 : Vis (defScope s_law) "_law_other" := Or.inl (by decide +kernel)
theorem g_law__law_draw : (defScope s_law).names.lookup ("_law_draw" : Str) = some NameKind.globalImplicit := by decide +kernel
theorem l_law_9 : Loc (defScope s_law) "_law_deep" := Or.inl (by decide +kernel)
theorem l_law_4 : Loc (defScope s_law) "_law_k" := Or.inl (by decide +kernel)
theorem v_law_9 : Vis (defScope s_law) "_law_deep" := Or.inl (by decide +kernel)
theorem g_law__law_great_terms : (defScope s_law).names.lookup ("_law_great_terms" : Str) = some NameKind.globalImplicit := by decide +kernel
theorem g_law__law_text : (defScope s_law).names.lookup ("_law_text" : Str) = some NameKind.globalImplicit := by decide +kernel
theorem g_law_read_term : (defScope s_law).names.lookup ("read_term" : Str) = some NameKind.globalImplicit := by decide +kernel
theorem l_law_10 : Loc (defScope s_law) "_law_told" := Or.inl (by decide +kernel)
theorem v_law_10 : Vis (defScope s_law) "_law_told" := Or.inl (by decide +kernel)
theorem g_law_repr : (defScope s_law).names.lookup ("repr" : Str) = some NameKind.globalImplicit := by decide +kernel
def w_law (S_law_deck S_law_pool S_law_some_term S_law_right S_show_term S_law_draw S_law_great_terms S_law_text S_read_term : Spc) : WS :=
  (sSeq (sFor (iVal (wOp (addR false) (wSl false (wVar 0) oNo (oSo (wC (.int 8)))) (wLst false (wCons (wC (.int 3)) wNil)))) (gNm 1)
    (sSeq (sAsg (wCall 1 S_law_deck (wCons (wVar 1) wNil)) (gNm 2))
  (sSeq (sAsg (wCall 1 S_law_pool (wCons (wVar 2) wNil)) (gNm 3))
  (sSeq (sAsg (wOp (addR false) (wLc false (iRg1 (wCons (wC (.int 4)) wNil)) (gNm 4) tYesP (wCall 2 S_law_some_term (wCons (wVar 2) (wCons (wVar 3) wNil))) [4]) (wLst false (wCons (wOp ixR (wOp dgetR (wVar 3) (wC (.str "unknowns"))) (wC (.int 0))) (wCons (wTup (wCons (wOp ixR (wOp ixR (wOp dgetR (wVar 3) (wC (.str "signs"))) (wC (.int 0))) (wC (.int 0))) wNil)) wNil)))) (gNm 5))
  (sSeq (sFor (iVal (wOp (addR false) (wVar 5) (wCa (revR false) (wCons (wVar 5) wNil)))) (gNm 6)
    (sIf (tNotP (tTru (wCall 1 S_law_right (wCons (wVar 6) wNil)))) (sRet (wC (.bl false))) sNext))
  (sSeq (sFor (iVal (wVar 5)) (gNm 7)
    (sFor (iVal (wVar 5)) (gNm 8)
    (sTag 0 (sIf (tValP (wOp neA (wOp eqA (wCall 1 S_show_term (wCons (wVar 7) wNil)) (wCall 1 S_show_term (wCons (wVar 8) wNil))) (wOp eqA (wVar 7) (wVar 8)))) (sRet (wC (.bl false))) sNext))))
  (sSeq (sAsg (wOp ixR (wOp dgetR (wVar 3) (wC (.str "unknowns"))) (wCall 2 S_law_draw (wCons (wVar 2) (wCons (wC (.int 4)) wNil)))) (gNm 9))
  (sSeq (sFor (iRg1 (wCons (wC (.int 24)) wNil)) (gNm 4)
    (sAsg (wTup (wCons (wOp ixR (wOp ixR (wOp dgetR (wVar 3) (wC (.str "signs"))) (wC (.int 1))) (wC (.int 0))) (wCons (wVar 9) wNil))) (gNm 9)))
  (sFor (iVal (wOp (addR false) (wLst false (wCons (wVar 9) wNil)) (wCall 1 S_law_great_terms (wCons (wVar 2) wNil)))) (gNm 6)
    (sTag 1 (sSeq (sAsg (wCall 1 S_read_term (wCons (wCall 1 S_law_text (wCons (wVar 6) wNil)) wNil)) (gNm 10))
  (sIf (tOrP (tValP (wOp neA (wCa reprR (wCons (wVar 10) wNil)) (wCa reprR (wCons (wVar 6) wNil)))) (tNotP (tTru (wCall 1 S_law_right (wCons (wVar 10) wNil))))) (sRet (wC (.bl false))) sNext))))))))))))
  (sRet (wC (.bl true))))
def q_law : QS :=
  (.seq (.for (.val (.op (.add false) (.sl false (.var 0) .no (.so (.cst (.int 8)))) (.lst false (.cons (.cst (.int 3)) .nil)))) (.nm 1) (.seq (.asg (.call 1 F_law_deck (.cons (.var 1) .nil)) (.nm 2)) (.seq (.asg (.call 1 F_law_pool (.cons (.var 2) .nil)) (.nm 3)) (.seq (.asg (.op (.add false) (.lc false (.rg1 (.cons (.cst (.int 4)) .nil)) (.nm 4) .yes (.call 2 F_law_some_term (.cons (.var 2) (.cons (.var 3) .nil))) [4]) (.lst false (.cons (.op .ix (.op .dget (.var 3) (.cst (.str "unknowns"))) (.cst (.int 0))) (.cons (.tup (.cons (.op .ix (.op .ix (.op .dget (.var 3) (.cst (.str "signs"))) (.cst (.int 0))) (.cst (.int 0))) .nil)) .nil)))) (.nm 5)) (.seq (.for (.val (.op (.add false) (.var 5) (.ca (.rev false) (.cons (.var 5) .nil)))) (.nm 6) (.ite (.not (.tru (.call 1 F_law_right (.cons (.var 6) .nil)))) (.ret (.cst (.bl false))) .next)) (.seq (.for (.val (.var 5)) (.nm 7) (.for (.val (.var 5)) (.nm 8) (.tag 0 (.ite (.val (.op .ne (.op .eq (.call 1 F_show_term (.cons (.var 7) .nil)) (.call 1 F_show_term (.cons (.var 8) .nil))) (.op .eq (.var 7) (.var 8)))) (.ret (.cst (.bl false))) .next)))) (.seq (.asg (.op .ix (.op .dget (.var 3) (.cst (.str "unknowns"))) (.call 2 F_law_draw (.cons (.var 2) (.cons (.cst (.int 4)) .nil)))) (.nm 9)) (.seq (.for (.rg1 (.cons (.cst (.int 24)) .nil)) (.nm 4) (.asg (.tup (.cons (.op .ix (.op .ix (.op .dget (.var 3) (.cst (.str "signs"))) (.cst (.int 1))) (.cst (.int 0))) (.cons (.var 9) .nil))) (.nm 9))) (.for (.val (.op (.add false) (.lst false (.cons (.var 9) .nil)) (.call 1 F_law_great_terms (.cons (.var 2) .nil)))) (.nm 6) (.tag 1 (.seq (.asg (.call 1 F_read_term (.cons (.call 1 F_law_text (.cons (.var 6) .nil)) .nil)) (.nm 10)) (.ite (.or (.val (.op .ne (.ca .repr (.cons (.var 10) .nil)) (.ca .repr (.cons (.var 6) .nil)))) (.not (.tru (.call 1 F_law_right (.cons (.var 10) .nil))))) (.ret (.cst (.bl false))) .next)))))))))))) (.ret (.cst (.bl true))))
theorem qd_law (φ : Nat → Spc) : q_law.den φ = w_law (φ F_law_deck) (φ F_law_pool) (φ F_law_some_term) (φ F_law_right) (φ F_show_term) (φ F_law_draw) (φ F_law_great_terms) (φ F_law_text) (φ F_read_term) := rfl
theorem ok_law {S_law_deck S_law_pool S_law_some_term S_law_right S_show_term S_law_draw S_law_great_terms S_law_text S_read_term : Spc} {S : Spc} {k : Nat} {f : Addr} {fd : FuncData} (F : Fun K "law" "law" s_law f fd) (T : Txt mg) (C_law_deck : Callee P w K mg base k "_law_deck" 1 S_law_deck) (C_law_pool : Callee P w K mg base k "_law_pool" 1 S_law_pool) (C_law_some_term : Callee P w K mg base k "_law_some_term" 2 S_law_some_term) (C_law_right : Callee P w K mg base k "_law_right" 1 S_law_right) (C_show_term : Callee P w K mg base k "show_term" 1 S_show_term) (C_law_draw : Callee P w K mg base k "_law_draw" 2 S_law_draw) (C_law_great_terms : Callee P w K mg base k "_law_great_terms" 1 S_law_great_terms) (C_law_text : Callee P w K mg base k "_law_text" 1 S_law_text) (C_read_term : Callee P w K mg base k "read_term" 1 S_read_term)
    (hS : ∀ xs sto Q, xs.length = 1 → S xs sto Q → w_law S_law_deck S_law_pool S_law_some_term S_law_right S_show_term S_law_draw S_law_great_terms S_law_text S_read_term { nx := fun _ st' => Q .non st', rt := Q } (startP ["_law_script", "_law_cell", "_law_deck_here", "_law_pool_here", "_law_k", "_law_some", "_law_term_here", "_law_one", "_law_other", "_law_deep", "_law_told"] xs) sto) : FnG P w K mg base (k + 1) f fd ["_law_script"] (spOf K 1 S) :=
  fn_ok F sc_law rfl (fun cdv A outer s H G =>
    (ds_cons (ds_for PassesOwn.never G.calm (di_val (d_op (dop_add false) (d_slice false (dv 0 rfl v_law_0 nb__law_script nc__law_script) do_no (do_so d_int)) (d_lst false (da_cons d_int da_nil)))) (dg_name (i := 1) sc_law.nd rfl l_law_1 (Or.inl rfl)) (ds_cons (ds_set (i := 2) sc_law.nd rfl l_law_2 (d_callC C_law_deck G (da_cons (dv 1 rfl v_law_1 nb__law_cell nc__law_cell) da_nil) g_law__law_deck nb__law_deck) (by exact swaps_no rfl) (Or.inl rfl))
    (ds_cons (ds_set (i := 3) sc_law.nd rfl l_law_3 (d_callC C_law_pool G (da_cons (dv 2 rfl v_law_2 nb__law_deck_here nc__law_deck_here) da_nil) g_law__law_pool nb__law_pool) (by exact swaps_no rfl) (Or.inl rfl))
    (ds_cons (ds_set (i := 5) sc_law.nd rfl l_law_5 (d_op (dop_add false) (d_lc false G.calm sc_law.nd (di_rng1 g_law_range T.m_range (da_cons d_int da_nil)) (blkOk_by (N := ["_law_script", "_law_cell", "_law_deck_here", "_law_pool_here", "_law_k", "_law_some", "_law_term_here", "_law_one", "_law_other", "_law_deep", "_law_told"]) (sc := defScope s_law) (own := [("_law_k", 4)]) (by decide +kernel)) (fun _ _ _ _ _ => (dg_name (i := 4) sc_law.nd rfl (by first | exact loc_blk (Or.inl (by decide +kernel)) | exact loc_blk (Or.inr (by decide +kernel))) (by first | exact fl_blk (by decide +kernel) | exact fc_blk (by decide +kernel)))) (by decide) (fun _ _ _ _ _ => dts_nil) (fun _ _ _ _ _ => (d_callC C_law_some_term (xgb G) (da_cons (dv 2 rfl (by first | exact vis_blk (Or.inr (Or.inr (by decide +kernel))) | exact vis_blk (Or.inl (by decide +kernel)) | exact vis_blk (Or.inr (Or.inl (by decide +kernel)))) nb__law_deck_here nc__law_deck_here) (da_cons (dv 3 rfl (by first | exact vis_blk (Or.inr (Or.inr (by decide +kernel))) | exact vis_blk (Or.inl (by decide +kernel)) | exact vis_blk (Or.inr (Or.inl (by decide +kernel)))) nb__law_pool_here nc__law_pool_here) da_nil)) (gl_blk (by decide +kernel)) nb__law_some_term))) (d_lst false (da_cons (d_ix (d_dget G (dv 3 rfl v_law_3 nb__law_pool_here nc__law_pool_here) d_str) d_int) (da_cons (d_tup (da_cons (d_ix (d_ix (d_dget G (dv 3 rfl v_law_3 nb__law_pool_here nc__law_pool_here) d_str) d_int) d_int) da_nil)) da_nil)))) (by exact swaps_no rfl) (Or.inl rfl))
    (ds_cons (ds_for PassesOwn.never G.calm (di_val (d_op (dop_add false) (dv 5 rfl v_law_5 nb__law_some nc__law_some) (d_rev false (dv 5 rfl v_law_5 nb__law_some nc__law_some)))) (dg_name (i := 6) sc_law.nd rfl l_law_6 (Or.inl rfl)) (ds_one (ds_if (dt_not (dt_tru (d_callC C_law_right G (da_cons (dv 6 rfl v_law_6 nb__law_term_here nc__law_term_here) da_nil) g_law__law_right nb__law_right))) (ds_one (ds_ret d_bl)) ds_nil)))
    (ds_cons (ds_for PassesOwn.never G.calm (di_val (dv 5 rfl v_law_5 nb__law_some nc__law_some)) (dg_name (i := 7) sc_law.nd rfl l_law_7 (Or.inl rfl)) (ds_one (ds_for PassesOwn.never G.calm (di_val (dv 5 rfl v_law_5 nb__law_some nc__law_some)) (dg_name (i := 8) sc_law.nd rfl l_law_8 (Or.inl rfl)) (ds_one (ds_if (dt_cmp (dop_neA G) (d_cmp (dop_eqA G) (d_callC C_show_term G (da_cons (dv 7 rfl v_law_7 nb__law_one nc__law_one) da_nil) g_law_show_term nb_show_term) (d_callC C_show_term G (da_cons (dv 8 rfl v_law_8 nb__law_other nc__law_other) da_nil) g_law_show_term nb_show_term) (mark_no rfl)) (d_cmp (dop_eqA G) (dv 7 rfl v_law_7 nb__law_one nc__law_one) (dv 8 rfl v_law_8 nb__law_other nc__law_other) (mark_no rfl)) (mark_no rfl)) (ds_one (ds_ret d_bl)) ds_nil)))))
    (ds_cons (ds_set (i := 9) sc_law.nd rfl l_law_9 (d_ix (d_dget G (dv 3 rfl v_law_3 nb__law_pool_here nc__law_pool_here) d_str) (d_callC C_law_draw G (da_cons (dv 2 rfl v_law_2 nb__law_deck_here nc__law_deck_here) (da_cons d_int da_nil)) g_law__law_draw nb__law_draw)) (by exact swaps_no rfl) (Or.inl rfl))
    (ds_cons (ds_for PassesOwn.never G.calm (di_rng1 g_law_range T.m_range (da_cons d_int da_nil)) (dg_name (i := 4) sc_law.nd rfl l_law_4 (Or.inl rfl)) (ds_one (ds_set (i := 9) sc_law.nd rfl l_law_9 (d_tup (da_cons (d_ix (d_ix (d_dget G (dv 3 rfl v_law_3 nb__law_pool_here nc__law_pool_here) d_str) d_int) d_int) (da_cons (dv 9 rfl v_law_9 nb__law_deep nc__law_deep) da_nil))) (by exact swaps_no rfl) (Or.inl rfl))))
    (ds_one (ds_for PassesOwn.never G.calm (di_val (d_op (dop_add false) (d_lst false (da_cons (dv 9 rfl v_law_9 nb__law_deep nc__law_deep) da_nil)) (d_callC C_law_great_terms G (da_cons (dv 2 rfl v_law_2 nb__law_deck_here nc__law_deck_here) da_nil) g_law__law_great_terms nb__law_great_terms))) (dg_name (i := 6) sc_law.nd rfl l_law_6 (Or.inl rfl)) (ds_cons (ds_set (i := 10) sc_law.nd rfl l_law_10 (d_callC C_read_term G (da_cons (d_callC C_law_text G (da_cons (dv 6 rfl v_law_6 nb__law_term_here nc__law_term_here) da_nil) g_law__law_text nb__law_text) da_nil) g_law_read_term nb_read_term) (by exact swaps_no rfl) (Or.inl rfl))
    (ds_one (ds_if (dt_w (dw_or (dt_cmp (dop_neA G) (d_callB (dca_repr G) g_law_repr T.m_repr bt_repr (da_cons (dv 10 rfl v_law_10 nb__law_told nc__law_told) da_nil) nn_repr nb_repr) (d_callB (dca_repr G) g_law_repr T.m_repr bt_repr (da_cons (dv 6 rfl v_law_6 nb__law_term_here nc__law_term_here) da_nil) nn_repr nb_repr) (mark_no rfl)) (dw_or1 (dt_not (dt_tru (d_callC C_law_right G (da_cons (dv 10 rfl v_law_10 nb__law_told nc__law_told) da_nil) g_law__law_right nb__law_right)))))) (ds_one (ds_ret d_bl)) ds_nil)))))))))))))
    (ds_one (ds_ret d_bl)))) hS
def prog : List QF := [⟨5, q_is_spelt⟩, ⟨1, q_is_name⟩, ⟨1, q_is_unknown⟩, ⟨1, q_within⟩, ⟨3, q_show_term⟩, ⟨1, q_must⟩, ⟨3, q_word_end⟩, ⟨8, q_term_from⟩, ⟨3, q_read_term⟩, ⟨1, q_law_deck⟩, ⟨4, q_law_draw⟩, ⟨2, q_law_pick⟩, ⟨5, q_law_spelt⟩, ⟨10, q_law_unlike⟩, ⟨3, q_law_pool⟩, ⟨11, q_law_term⟩, ⟨4, q_law_some_term⟩, ⟨3, q_law_text⟩, ⟨7, q_law_great_terms⟩, ⟨3, q_law_right⟩, ⟨11, q_law⟩]
end
end K06

namespace K06
open PySem PySem.Spec L2 Pv
theorem go_is_spelt {k : Nat} {xs : List PV} {st : Sto} {Q : PV → Sto → Prop} (h : w_is_spelt { nx := fun _ st' => Q .non st', rt := Q } (startP ["thing", "ahead", "first", "rest", "sign"] xs) st) : Sem prog (k + 1) F_is_spelt xs st Q := by
  show q_is_spelt.den (Sem prog k) { nx := fun _ st' => Q .non st', rt := Q } (startN 5 xs) st
  rw [qd_is_spelt]
  exact h
theorem go_is_name {k : Nat} {xs : List PV} {st : Sto} {Q : PV → Sto → Prop} (h : w_is_name (Sem prog k F_is_spelt) { nx := fun _ st' => Q .non st', rt := Q } (startP ["thing"] xs) st) : Sem prog (k + 1) F_is_name xs st Q := by
  show q_is_name.den (Sem prog k) { nx := fun _ st' => Q .non st', rt := Q } (startN 1 xs) st
  rw [qd_is_name]
  exact h
theorem go_is_unknown {k : Nat} {xs : List PV} {st : Sto} {Q : PV → Sto → Prop} (h : w_is_unknown (Sem prog k F_is_spelt) { nx := fun _ st' => Q .non st', rt := Q } (startP ["thing"] xs) st) : Sem prog (k + 1) F_is_unknown xs st Q := by
  show q_is_unknown.den (Sem prog k) { nx := fun _ st' => Q .non st', rt := Q } (startN 1 xs) st
  rw [qd_is_unknown]
  exact h
theorem go_within {k : Nat} {xs : List PV} {st : Sto} {Q : PV → Sto → Prop} (h : w_within { nx := fun _ st' => Q .non st', rt := Q } (startP ["term"] xs) st) : Sem prog (k + 1) F_within xs st Q := by
  show q_within.den (Sem prog k) { nx := fun _ st' => Q .non st', rt := Q } (startN 1 xs) st
  rw [qd_within]
  exact h
theorem go_show_term {k : Nat} {xs : List PV} {st : Sto} {Q : PV → Sto → Prop} (h : w_show_term (Sem prog k F_within) (Sem prog k F_show_term) { nx := fun _ st' => Q .non st', rt := Q } (startP ["term", "some", "one"] xs) st) : Sem prog (k + 1) F_show_term xs st Q := by
  show q_show_term.den (Sem prog k) { nx := fun _ st' => Q .non st', rt := Q } (startN 3 xs) st
  rw [qd_show_term]
  exact h
theorem go_must {k : Nat} {xs : List PV} {st : Sto} {Q : PV → Sto → Prop} (h : w_must { nx := fun _ st' => Q .non st', rt := Q } (startP ["good"] xs) st) : Sem prog (k + 1) F_must xs st Q := by
  show q_must.den (Sem prog k) { nx := fun _ st' => Q .non st', rt := Q } (startN 1 xs) st
  rw [qd_must]
  exact h
theorem go_word_end {k : Nat} {xs : List PV} {st : Sto} {Q : PV → Sto → Prop} (h : w_word_end { nx := fun _ st' => Q .non st', rt := Q } (startP ["text", "start", "stop"] xs) st) : Sem prog (k + 1) F_word_end xs st Q := by
  show q_word_end.den (Sem prog k) { nx := fun _ st' => Q .non st', rt := Q } (startN 3 xs) st
  rw [qd_word_end]
  exact h
theorem go_term_from {k : Nat} {xs : List PV} {st : Sto} {Q : PV → Sto → Prop} (h : w_term_from (Sem prog k F_must) (Sem prog k F_word_end) (Sem prog k F_is_unknown) (Sem prog k F_is_name) (Sem prog k F_term_from) { nx := fun _ st' => Q .non st', rt := Q } (startP ["text", "start", "deep", "stop", "word", "some", "sign", "one"] xs) st) : Sem prog (k + 1) F_term_from xs st Q := by
  show q_term_from.den (Sem prog k) { nx := fun _ st' => Q .non st', rt := Q } (startN 8 xs) st
  rw [qd_term_from]
  exact h
theorem go_read_term {k : Nat} {xs : List PV} {st : Sto} {Q : PV → Sto → Prop} (h : w_read_term (Sem prog k F_must) (Sem prog k F_term_from) { nx := fun _ st' => Q .non st', rt := Q } (startP ["text", "term", "stop"] xs) st) : Sem prog (k + 1) F_read_term xs st Q := by
  show q_read_term.den (Sem prog k) { nx := fun _ st' => Q .non st', rt := Q } (startN 3 xs) st
  rw [qd_read_term]
  exact h
theorem go_law_deck {k : Nat} {xs : List PV} {st : Sto} {Q : PV → Sto → Prop} (h : w_law_deck { nx := fun _ st' => Q .non st', rt := Q } (startP ["_law_cell"] xs) st) : Sem prog (k + 1) F_law_deck xs st Q := by
  show q_law_deck.den (Sem prog k) { nx := fun _ st' => Q .non st', rt := Q } (startN 1 xs) st
  rw [qd_law_deck]
  exact h
theorem go_law_draw {k : Nat} {xs : List PV} {st : Sto} {Q : PV → Sto → Prop} (h : w_law_draw { nx := fun _ st' => Q .non st', rt := Q } (startP ["_law_deck_here", "_law_bound", "_law_got", "_law_mixed"] xs) st) : Sem prog (k + 1) F_law_draw xs st Q := by
  show q_law_draw.den (Sem prog k) { nx := fun _ st' => Q .non st', rt := Q } (startN 4 xs) st
  rw [qd_law_draw]
  exact h
theorem go_law_pick {k : Nat} {xs : List PV} {st : Sto} {Q : PV → Sto → Prop} (h : w_law_pick (Sem prog k F_law_draw) { nx := fun _ st' => Q .non st', rt := Q } (startP ["_law_deck_here", "_law_some"] xs) st) : Sem prog (k + 1) F_law_pick xs st Q := by
  show q_law_pick.den (Sem prog k) { nx := fun _ st' => Q .non st', rt := Q } (startN 2 xs) st
  rw [qd_law_pick]
  exact h
theorem go_law_spelt {k : Nat} {xs : List PV} {st : Sto} {Q : PV → Sto → Prop} (h : w_law_spelt (Sem prog k F_law_draw) { nx := fun _ st' => Q .non st', rt := Q } (startP ["_law_deck_here", "_law_letters", "_law_small", "_law_many", "_law_k"] xs) st) : Sem prog (k + 1) F_law_spelt xs st Q := by
  show q_law_spelt.den (Sem prog k) { nx := fun _ st' => Q .non st', rt := Q } (startN 5 xs) st
  rw [qd_law_spelt]
  exact h
theorem go_law_unlike {k : Nat} {xs : List PV} {st : Sto} {Q : PV → Sto → Prop} (h : w_law_unlike (Sem prog k F_law_draw) (Sem prog k F_law_spelt) { nx := fun _ st' => Q .non st', rt := Q } (startP ["_law_deck_here", "_law_letters", "_law_many", "_law_way", "_law_word", "_law_base", "_law_at", "_law_row", "_law_first", "_law_k"] xs) st) : Sem prog (k + 1) F_law_unlike xs st Q := by
  show q_law_unlike.den (Sem prog k) { nx := fun _ st' => Q .non st', rt := Q } (startN 10 xs) st
  rw [qd_law_unlike]
  exact h
theorem go_law_pool {k : Nat} {xs : List PV} {st : Sto} {Q : PV → Sto → Prop} (h : w_law_pool (Sem prog k F_law_unlike) (Sem prog k F_law_draw) { nx := fun _ st' => Q .non st', rt := Q } (startP ["_law_deck_here", "_law_names", "_law_counts"] xs) st) : Sem prog (k + 1) F_law_pool xs st Q := by
  show q_law_pool.den (Sem prog k) { nx := fun _ st' => Q .non st', rt := Q } (startN 3 xs) st
  rw [qd_law_pool]
  exact h
theorem go_law_term {k : Nat} {xs : List PV} {st : Sto} {Q : PV → Sto → Prop} (h : w_law_term (Sem prog k F_law_draw) (Sem prog k F_law_pick) (Sem prog k F_law_term) { nx := fun _ st' => Q .non st', rt := Q } (startP ["_law_deck_here", "_law_pool_here", "_law_unknowns", "_law_deep", "_law_left", "_law_some", "_law_name", "_law_many", "_law_found", "_law_k", "_law_sign"] xs) st) : Sem prog (k + 1) F_law_term xs st Q := by
  show q_law_term.den (Sem prog k) { nx := fun _ st' => Q .non st', rt := Q } (startN 11 xs) st
  rw [qd_law_term]
  exact h
theorem go_law_some_term {k : Nat} {xs : List PV} {st : Sto} {Q : PV → Sto → Prop} (h : w_law_some_term (Sem prog k F_law_draw) (Sem prog k F_law_term) { nx := fun _ st' => Q .non st', rt := Q } (startP ["_law_deck_here", "_law_pool_here", "_law_great", "_law_deep"] xs) st) : Sem prog (k + 1) F_law_some_term xs st Q := by
  show q_law_some_term.den (Sem prog k) { nx := fun _ st' => Q .non st', rt := Q } (startN 4 xs) st
  rw [qd_law_some_term]
  exact h
theorem go_law_text {k : Nat} {xs : List PV} {st : Sto} {Q : PV → Sto → Prop} (h : w_law_text (Sem prog k F_law_text) { nx := fun _ st' => Q .non st', rt := Q } (startP ["_law_term_here", "_law_inner", "_law_one"] xs) st) : Sem prog (k + 1) F_law_text xs st Q := by
  show q_law_text.den (Sem prog k) { nx := fun _ st' => Q .non st', rt := Q } (startN 3 xs) st
  rw [qd_law_text]
  exact h
theorem go_law_great_terms {k : Nat} {xs : List PV} {st : Sto} {Q : PV → Sto → Prop} (h : w_law_great_terms (Sem prog k F_law_unlike) { nx := fun _ st' => Q .non st', rt := Q } (startP ["_law_deck_here", "_law_t", "_law_s", "_law_a", "_law_wide", "_law_deep", "_law_k"] xs) st) : Sem prog (k + 1) F_law_great_terms xs st Q := by
  show q_law_great_terms.den (Sem prog k) { nx := fun _ st' => Q .non st', rt := Q } (startN 7 xs) st
  rw [qd_law_great_terms]
  exact h
theorem go_law_right {k : Nat} {xs : List PV} {st : Sto} {Q : PV → Sto → Prop} (h : w_law_right (Sem prog k F_law_text) (Sem prog k F_show_term) (Sem prog k F_read_term) { nx := fun _ st' => Q .non st', rt := Q } (startP ["_law_term_here", "_law_kept", "_law_text_here"] xs) st) : Sem prog (k + 1) F_law_right xs st Q := by
  show q_law_right.den (Sem prog k) { nx := fun _ st' => Q .non st', rt := Q } (startN 3 xs) st
  rw [qd_law_right]
  exact h
theorem go_law {k : Nat} {xs : List PV} {st : Sto} {Q : PV → Sto → Prop} (h : w_law (Sem prog k F_law_deck) (Sem prog k F_law_pool) (Sem prog k F_law_some_term) (Sem prog k F_law_right) (Sem prog k F_show_term) (Sem prog k F_law_draw) (Sem prog k F_law_great_terms) (Sem prog k F_law_text) (Sem prog k F_read_term) { nx := fun _ st' => Q .non st', rt := Q } (startP ["_law_script", "_law_cell", "_law_deck_here", "_law_pool_here", "_law_k", "_law_some", "_law_term_here", "_law_one", "_law_other", "_law_deep", "_law_told"] xs) st) : Sem prog (k + 1) F_law xs st Q := by
  show q_law.den (Sem prog k) { nx := fun _ st' => Q .non st', rt := Q } (startN 11 xs) st
  rw [qd_law]
  exact h
end K06

namespace K06
open PySem PySem.Spec L2 Pv
/-! words: deck, draw, spelt, unlike (law's own) -/
theorem c_draw {k : Nat} {xs : List PV} {sto : Sto} {Q : PV → Sto → Prop} (hk : 1 ≤ k) (h : S_draw xs sto Q) : Sem prog k F_law_draw xs sto Q := by
  obtain ⟨k, rfl⟩ : ∃ j, k = j + 1 := ⟨k - 1, by omega⟩
  refine go_law_draw ?_
  obtain ⟨n, m, rfl, ⟨a, b, c, hn⟩, hm, hm2, k⟩ := h
  have i0 : ixN 3 (0 : Int) = some 0 := by decide
  have i2 : ixN 3 (2 : Int) = some 2 := by decide
  simp only [w_law_draw, sSeq, sIf, sAsg, sRet, sRetN, sNext, sDrop, gNm, gIx, gTp, gCn, gNl, tValP, tTru, truP, tNotP, tAndP, tOrP, wOp, wVar, wC, wCa, wCons, wNil, wTup, wLst, wIf, wCall, wNeg, startP, List.map_cons, List.map_nil, List.cons_append, List.nil_append, List.getElem?_cons_zero, List.getElem?_cons_succ, List.length_cons, List.length_nil, Nat.reduceAdd, Nat.reduceSub, List.replicate_succ, List.replicate_zero, List.set_cons_zero, List.set_cons_succ, Option.some.injEq, exists_eq_left', PV.bl.injEq, PV.int.injEq, PV.str.injEq, PV.ref.injEq, PV.tup.injEq, PV.lst.injEq, Cell.lst.injEq, List.cons.injEq, and_true, true_and, exists_and_left, r_add, r_adds, r_addt, r_addl, r_sub, r_mul, r_fdiv, r_mod, r_pow, r_lt, r_le, r_gt, r_ge, r_eqi, r_nei, r_eqs, r_nes, r_inti, r_intb, r_ixr, r_ixl, r_ixt, r_newt, r_newf, atI_0, atI_1, atI_2, decide_eq_true_eq, hn]
  split
  · refine ⟨hm, ⟨hm, hm2⟩, 0, i0, ?_⟩
    exact k _ _ (Int.emod_nonneg _ (by omega)) (Int.emod_lt_of_pos _ hm) (Gr.set (by simp)) ⟨_, _, _, set_at hn⟩
  · refine ⟨2, i2, ?_⟩
    have h2 : (sto.set n (.lst ([PV.int a, PV.int b, PV.int c].set 2 (PV.int (c + 1)))))[n]? = some (.lst [PV.int a, PV.int b, PV.int (c + 1)]) := set_at hn
    simp only [h2, Option.some.injEq, Cell.lst.injEq, exists_eq_left', atI_0, atI_1, atI_2, exists_and_left, r_add, r_sub, r_mul, r_fdiv, r_mod]
    refine ⟨.inl (by decide), .inr (by decide), by decide, .inl ?_, .inl (by decide), by decide, .inr (by decide), by decide, by decide, hm, ?_⟩
    · constructor <;> omega
    · exact k _ _ (Int.emod_nonneg _ (by omega)) (Int.emod_lt_of_pos _ hm) (Gr.set (by simp)) ⟨_, _, _, h2⟩
theorem c_pick {k : Nat} {xs : List PV} {sto : Sto} {Q : PV → Sto → Prop} (hk : 2 ≤ k) (h : S_pick xs sto Q) : Sem prog k F_law_pick xs sto Q := by
  obtain ⟨k, rfl⟩ : ∃ j, k = j + 1 := ⟨k - 1, by omega⟩
  refine go_law_pick ?_
  obtain ⟨n, x, ys, rfl, hd, hx, hne, h0, hl, kk⟩ := h
  simp only [w_law_pick, sSeq, sIf, sAsg, sRet, sRetN, sNext, sDrop, gNm, gIx, gTp, gCn, gNl, tValP, tTru, truP, tNotP, tAndP, tOrP, wOp, wVar, wC, wCa, wCons, wNil, wTup, wLst, wIf, wCall, wNeg, startP, List.map_cons, List.map_nil, List.cons_append, List.nil_append, List.getElem?_cons_zero, List.getElem?_cons_succ, List.length_cons, List.length_nil, Nat.reduceAdd, Nat.reduceSub, List.replicate_succ, List.replicate_zero, List.set_cons_zero, List.set_cons_succ, Option.some.injEq, exists_eq_left', PV.bl.injEq, PV.int.injEq, PV.str.injEq, PV.ref.injEq, PV.tup.injEq, PV.lst.injEq, Cell.lst.injEq, List.cons.injEq, and_true, true_and, exists_and_left, r_add, r_adds, r_addt, r_addl, r_sub, r_mul, r_fdiv, r_mod, r_pow, r_lt, r_le, r_gt, r_ge, r_eqi, r_nei, r_eqs, r_nes, r_inti, r_intb, r_ixr, r_ixl, r_ixt, r_newt, r_newf, atI_0, atI_1, atI_2, decide_eq_true_eq]
  refine r_len hx (c_draw (by omega) ⟨n, ys.length, rfl, hd, ?_, by omega, fun v st' v0 v1 g hd' => ?_⟩)
  · cases ys with
    | nil => exact absurd rfl h0
    | cons y ys => simp only [List.length_cons]; omega
  · obtain ⟨u, hu, m⟩ := atI_of v0 v1
    exact ix_seq (seq_gr hx g (by simpa using hne)) hu (kk u st' m g hd')
theorem c_spelt {k : Nat} {xs : List PV} {sto : Sto} {Q : PV → Sto → Prop} (hk : 2 ≤ k) (h : S_word xs sto Q) : Sem prog k F_law_spelt xs sto Q := by
  obtain ⟨k, rfl⟩ : ∃ j, k = j + 1 := ⟨k - 1, by omega⟩
  refine go_law_spelt ?_
  obtain ⟨n, L, rfl, hd, hL, hLo, kk⟩ := h
  have e0 : (Str.ofString "abcdefghijklmnopqrstuvwxyz" : Str) = small := rfl
  have hk1 : 1 ≤ k := by omega
  simp only [w_law_spelt, sSeq, sIf, sAsg, sRet, sRetN, sNext, sDrop, gNm, gIx, gTp, gCn, gNl, tValP, tTru, truP, tNotP, tAndP, tOrP, wOp, wVar, wC, wCa, wCons, wNil, wTup, wLst, wIf, wCall, wNeg, startP, List.map_cons, List.map_nil, List.cons_append, List.nil_append, List.getElem?_cons_zero, List.getElem?_cons_succ, List.length_cons, List.length_nil, Nat.reduceAdd, Nat.reduceSub, List.replicate_succ, List.replicate_zero, List.set_cons_zero, List.set_cons_succ, Option.some.injEq, exists_eq_left', PV.bl.injEq, PV.int.injEq, PV.str.injEq, PV.ref.injEq, PV.tup.injEq, PV.lst.injEq, Cell.lst.injEq, List.cons.injEq, and_true, true_and, exists_and_left, r_add, r_adds, r_addt, r_addl, r_sub, r_mul, r_fdiv, r_mod, r_pow, r_lt, r_le, r_gt, r_ge, r_eqi, r_nei, r_eqs, r_nes, r_inti, r_intb, r_ixr, r_ixl, r_ixt, r_newt, r_newf, atI_0, atI_1, atI_2, decide_eq_true_eq]
  refine c_draw hk1 ⟨n, 6, rfl, hd, by decide, by decide, fun v1 st1 a1 b1 g1 d1 => ?_⟩
  simp only [r_add]
  refine ⟨by decide, c_draw hk1 ⟨n, 3, rfl, d1, by decide, by decide, fun v2 st2 a2 b2 g2 d2 => ?_⟩⟩
  obtain ⟨many, he, hm1, hm6⟩ : ∃ many, atI [PV.int 1, PV.int 6, PV.int (1 + v1)] v2 = some (.int many) ∧ 1 ≤ many ∧ many ≤ 6 := by
    have : v2 = 0 ∨ v2 = 1 ∨ v2 = 2 := by omega
    rcases this with rfl | rfl | rfl
    · exact ⟨1, atI_0, by decide, by decide⟩
    · exact ⟨6, atI_1, by decide, by decide⟩
    · exact ⟨1 + v1, atI_2, by omega, by omega⟩
  refine ix_lst he (c_draw hk1 ⟨n, 26, rfl, d2, by decide, by decide, fun v3 st3 a3 b3 g3 d3 => ?_⟩)
  obtain ⟨c, hc, hcm⟩ := atI_of (xs := L.cps.toList) a3 (by rw [len_list, hL]; exact b3)
  simp only [r_ixs, hL]
  refine ⟨c, by decide, hc, ?_⟩
  simp only [wM, wLc, iRg1, wipeP, sSeq, sIf, sAsg, sRet, sRetN, sNext, sDrop, gNm, gIx, gTp, gCn, gNl, tValP, tTru, truP, tNotP, tAndP, tOrP, wOp, wVar, wC, wCa, wCons, wNil, wTup, wLst, wIf, wCall, wNeg, startP, List.map_cons, List.map_nil, List.cons_append, List.nil_append, List.getElem?_cons_zero, List.getElem?_cons_succ, List.length_cons, List.length_nil, Nat.reduceAdd, Nat.reduceSub, List.replicate_succ, List.replicate_zero, List.set_cons_zero, List.set_cons_succ, Option.some.injEq, exists_eq_left', PV.bl.injEq, PV.int.injEq, PV.str.injEq, PV.ref.injEq, PV.tup.injEq, PV.lst.injEq, Cell.lst.injEq, List.cons.injEq, and_true, true_and, exists_and_left, r_add, r_adds, r_addt, r_addl, r_sub, r_mul, r_fdiv, r_mod, r_pow, r_lt, r_le, r_gt, r_ge, r_eqi, r_nei, r_eqs, r_nes, r_inti, r_intb, r_ixr, r_ixl, r_ixt, r_newt, r_newf, atI_0, atI_1, atI_2, decide_eq_true_eq]
  refine ⟨rfl, ⟨by omega, by omega⟩, ?_⟩
  refine lc_map [n] (fun st => DeckOk st n) (fun _ y => ∃ c, y = .str ⟨#[c]⟩ ∧ c ∈ small.cps.toList) (fun _ _ => trivial) _ _ _ _ (fun x hx st Q' hI k' => ?_) d3 (by simp [rgP]; rw [sizeLine_eq]; omega) fun ys st4 hA d4 g4 => ?_
  · simp only [sSeq, sIf, sAsg, sRet, sRetN, sNext, sDrop, gNm, gIx, gTp, gCn, gNl, tValP, tTru, truP, tNotP, tAndP, tOrP, wOp, wVar, wC, wCa, wCons, wNil, wTup, wLst, wIf, wCall, wNeg, startP, List.map_cons, List.map_nil, List.cons_append, List.nil_append, List.getElem?_cons_zero, List.getElem?_cons_succ, List.length_cons, List.length_nil, Nat.reduceAdd, Nat.reduceSub, List.replicate_succ, List.replicate_zero, List.set_cons_zero, List.set_cons_succ, Option.some.injEq, exists_eq_left', PV.bl.injEq, PV.int.injEq, PV.str.injEq, PV.ref.injEq, PV.tup.injEq, PV.lst.injEq, Cell.lst.injEq, List.cons.injEq, and_true, true_and, exists_and_left, r_add, r_adds, r_addt, r_addl, r_sub, r_mul, r_fdiv, r_mod, r_pow, r_lt, r_le, r_gt, r_ge, r_eqi, r_nei, r_eqs, r_nes, r_inti, r_intb, r_ixr, r_ixl, r_ixt, r_newt, r_newf, atI_0, atI_1, atI_2, decide_eq_true_eq]
    refine c_draw hk1 ⟨n, 26, rfl, hI, by decide, by decide, fun v st' v0 v1 g d => ?_⟩
    obtain ⟨c, hc, hco⟩ := atI_of (xs := small.cps.toList) v0 (by rw [len_list, small_len]; exact v1)
    simp only [r_ixs]
    exact ⟨c, by rw [e0, small_len]; decide, hc, k' _ _ ⟨c, rfl, hco⟩ d g⟩
  · obtain ⟨cs, rfl, hl, hp⟩ := all2_signs hA
    have hn : cs.length = (many - 1).toNat := by rw [hl]; simp [rgP]
    have hj := join_signs cs
    refine ⟨_, _, cs.map (fun c => ⟨#[c]⟩), rfl, rfl, by simp [seqP, lstP, lstS, pStrs, Function.comp_def], ?_, ?_⟩
    · have ee : (Str.ofString "").length = 0 := rfl
      rw [ee, Nat.mul_zero, List.map_map]
      have : (cs.map ((fun x : Str => x.length) ∘ fun c => (⟨#[c]⟩ : Str))).sum = cs.length := sum_ones cs
      rw [this]; omega
    · simp only [r_adds, txt_join]
      have e1 : (⟨#[c]⟩ : Str).length = 1 := rfl
      refine ⟨by rw [hj, e1, sizeLine_eq]; show 1 + (List.toArray cs).size ≤ _; simp; omega, kk _ _ ?_ (((g1.trans g2).trans g3).trans g4) d4⟩
      refine ⟨c, cs, ?_, hcm, hp, by omega⟩
      rw [str_app, hj]; simp
theorem c_unlike {k : Nat} {xs : List PV} {sto : Sto} {Q : PV → Sto → Prop} (hk : 3 ≤ k) (h : S_words xs sto Q) : Sem prog k F_law_unlike xs sto Q := by
  obtain ⟨k, rfl⟩ : ∃ j, k = j + 1 := ⟨k - 1, by omega⟩
  refine go_law_unlike ?_
  obtain ⟨n, L, m, rfl, hd, hL, hLo, hm1, hm6, kk⟩ := h
  have e0 : (Str.ofString "abcdefghijklmnopqrstuvwxyz" : Str) = small := rfl
  have hk1 : 1 ≤ k := by omega
  simp only [w_law_unlike, wSl, oNo, oSo, slR, sSeq, sIf, sAsg, sRet, sRetN, sNext, sDrop, gNm, gIx, gTp, gCn, gNl, tValP, tTru, truP, tNotP, tAndP, tOrP, wOp, wVar, wC, wCa, wCons, wNil, wTup, wLst, wIf, wCall, wNeg, startP, List.map_cons, List.map_nil, List.cons_append, List.nil_append, List.getElem?_cons_zero, List.getElem?_cons_succ, List.length_cons, List.length_nil, Nat.reduceAdd, Nat.reduceSub, List.replicate_succ, List.replicate_zero, List.set_cons_zero, List.set_cons_succ, Option.some.injEq, exists_eq_left', PV.bl.injEq, PV.int.injEq, PV.str.injEq, PV.ref.injEq, PV.tup.injEq, PV.lst.injEq, Cell.lst.injEq, List.cons.injEq, and_true, true_and, exists_and_left, r_add, r_adds, r_addt, r_addl, r_sub, r_mul, r_fdiv, r_mod, r_pow, r_lt, r_le, r_gt, r_ge, r_eqi, r_nei, r_eqs, r_nes, r_inti, r_intb, r_ixr, r_ixl, r_ixt, r_newt, r_newf, atI_0, atI_1, atI_2, decide_eq_true_eq]
  refine c_draw hk1 ⟨n, 3, rfl, hd, by decide, by decide, fun v1 st1 a1 b1 g1 d1 => ?_⟩
  refine c_spelt (by omega) ⟨n, L, rfl, d1, hL, hLo, fun s st2 hs g2 d2 => ?_⟩
  simp only [sSeq, sIf, sAsg, sRet, sRetN, sNext, sDrop, gNm, gIx, gTp, gCn, gNl, tValP, tTru, truP, tNotP, tAndP, tOrP, wOp, wVar, wC, wCa, wCons, wNil, wTup, wLst, wIf, wCall, wNeg, startP, List.map_cons, List.map_nil, List.cons_append, List.nil_append, List.getElem?_cons_zero, List.getElem?_cons_succ, List.length_cons, List.length_nil, Nat.reduceAdd, Nat.reduceSub, List.replicate_succ, List.replicate_zero, List.set_cons_zero, List.set_cons_succ, Option.some.injEq, exists_eq_left', PV.bl.injEq, PV.int.injEq, PV.str.injEq, PV.ref.injEq, PV.tup.injEq, PV.lst.injEq, Cell.lst.injEq, List.cons.injEq, and_true, true_and, exists_and_left, r_add, r_adds, r_addt, r_addl, r_sub, r_mul, r_fdiv, r_mod, r_pow, r_lt, r_le, r_gt, r_ge, r_eqi, r_nei, r_eqs, r_nes, r_inti, r_intb, r_ixr, r_ixl, r_ixt, r_newt, r_newf, atI_0, atI_1, atI_2, decide_eq_true_eq]
  have e6 : (Str.ofString "abcdef").length = 6 := by decide +kernel
  have hsl := hs.len
  have big : (100 : Nat) ≤ sizeLine := by decide
  split
  · refine ⟨by rw [e6]; omega, by rw [len_app, e6]; omega, ?_⟩
    have hb := base_spelt hs
    generalize cutS (s ++ Str.ofString "abcdef") none (some 6) = base at hb ⊢
    obtain ⟨hb, hb6⟩ := hb
    simp only [wLc, iRg1, wipeP, r_min, sSeq, sIf, sAsg, sRet, sRetN, sNext, sDrop, gNm, gIx, gTp, gCn, gNl, tValP, tTru, truP, tNotP, tAndP, tOrP, wOp, wVar, wC, wCa, wCons, wNil, wTup, wLst, wIf, wCall, wNeg, startP, List.map_cons, List.map_nil, List.cons_append, List.nil_append, List.getElem?_cons_zero, List.getElem?_cons_succ, List.length_cons, List.length_nil, Nat.reduceAdd, Nat.reduceSub, List.replicate_succ, List.replicate_zero, List.set_cons_zero, List.set_cons_succ, Option.some.injEq, exists_eq_left', PV.bl.injEq, PV.int.injEq, PV.str.injEq, PV.ref.injEq, PV.tup.injEq, PV.lst.injEq, Cell.lst.injEq, List.cons.injEq, and_true, true_and, exists_and_left, r_add, r_adds, r_addt, r_addl, r_sub, r_mul, r_fdiv, r_mod, r_pow, r_lt, r_le, r_gt, r_ge, r_eqi, r_nei, r_eqs, r_nes, r_inti, r_intb, r_ixr, r_ixl, r_ixt, r_newt, r_newf, atI_0, atI_1, atI_2, decide_eq_true_eq]
    have hmin : (if m < 6 then m else 6) = m := by split <;> omega
    rw [hmin]
    refine ⟨⟨by omega, by omega⟩, ?_⟩
    refine lc_map [] (fun _ => True) (fun _ y => ∃ s, y = .str s ∧ Spelt L s) (fun _ _ => trivial) _ _ _ _ (fun x hx st Q' hI k' => ?_) trivial (by rw [rgP_len]; simp; omega) fun ys st4 hA _ g4 => ?_
    · obtain ⟨j, hj, rfl⟩ := rgP_mem hx
      simp only [wSl, oNo, oSo, slR, sSeq, sIf, sAsg, sRet, sRetN, sNext, sDrop, gNm, gIx, gTp, gCn, gNl, tValP, tTru, truP, tNotP, tAndP, tOrP, wOp, wVar, wC, wCa, wCons, wNil, wTup, wLst, wIf, wCall, wNeg, startP, List.map_cons, List.map_nil, List.cons_append, List.nil_append, List.getElem?_cons_zero, List.getElem?_cons_succ, List.length_cons, List.length_nil, Nat.reduceAdd, Nat.reduceSub, List.replicate_succ, List.replicate_zero, List.set_cons_zero, List.set_cons_succ, Option.some.injEq, exists_eq_left', PV.bl.injEq, PV.int.injEq, PV.str.injEq, PV.ref.injEq, PV.tup.injEq, PV.lst.injEq, Cell.lst.injEq, List.cons.injEq, and_true, true_and, exists_and_left, r_add, r_adds, r_addt, r_addl, r_sub, r_mul, r_fdiv, r_mod, r_pow, r_lt, r_le, r_gt, r_ge, r_eqi, r_nei, r_eqs, r_nes, r_inti, r_intb, r_ixr, r_ixl, r_ixt, r_newt, r_newf, atI_0, atI_1, atI_2, decide_eq_true_eq]
      refine ⟨by omega, k' _ _ ⟨_, rfl, ?_⟩ trivial .refl⟩
      rw [show (1 + (0 + (j : Int)) : Int) = ((1 + j : Nat) : Int) by omega]
      exact hb.take (by omega)
    · obtain ⟨ss, rfl, hl, hp⟩ := all2_strs (P := Spelt L) hA
      rw [rgP_len] at hl
      exact kk ss st4 (by omega) hp ((g1.trans g2).trans g4.nil) (d2.gr (ds := []) g4 (by simp))
  · refine r_lens.mpr ⟨by omega, c_draw hk1 ⟨n, s.length, rfl, d2, by omega, by omega, fun v2 st3 a2 b2 g3 d3 => ?_⟩⟩
    simp only [r_gt, r_intb]
    refine ⟨by decide, ?_⟩
    obtain ⟨R, hR, hRl, hR0, hR1⟩ : ∃ R, atI [PV.str L, PV.str (Str.ofString "abcdefghijklmnopqrstuvwxyz")] (if decide (0 < v2) = true then 1 else 0) = some (.str R) ∧ R.length = 26 ∧ (v2 = 0 → R = L) ∧ (0 < v2 → R = small) := by
      split
      · rename_i h; exact ⟨_, atI_1, by rw [e0, small_len], fun z => by simp at h; omega, fun _ => e0⟩
      · rename_i h; exact ⟨_, atI_0, hL, fun _ => rfl, fun z => by simp at h; omega⟩
    refine ix_lst hR (c_draw hk1 ⟨n, 26, rfl, d3, by decide, by decide, fun v3 st4 a3 b3 g4 d4 => ?_⟩)
    simp only [wLc, iRg1, wipeP, sSeq, sIf, sAsg, sRet, sRetN, sNext, sDrop, gNm, gIx, gTp, gCn, gNl, tValP, tTru, truP, tNotP, tAndP, tOrP, wOp, wVar, wC, wCa, wCons, wNil, wTup, wLst, wIf, wCall, wNeg, startP, List.map_cons, List.map_nil, List.cons_append, List.nil_append, List.getElem?_cons_zero, List.getElem?_cons_succ, List.length_cons, List.length_nil, Nat.reduceAdd, Nat.reduceSub, List.replicate_succ, List.replicate_zero, List.set_cons_zero, List.set_cons_succ, Option.some.injEq, exists_eq_left', PV.bl.injEq, PV.int.injEq, PV.str.injEq, PV.ref.injEq, PV.tup.injEq, PV.lst.injEq, Cell.lst.injEq, List.cons.injEq, and_true, true_and, exists_and_left, r_add, r_adds, r_addt, r_addl, r_sub, r_mul, r_fdiv, r_mod, r_pow, r_lt, r_le, r_gt, r_ge, r_eqi, r_nei, r_eqs, r_nes, r_inti, r_intb, r_ixr, r_ixl, r_ixt, r_newt, r_newf, atI_0, atI_1, atI_2, decide_eq_true_eq]
    refine ⟨⟨by omega, by omega⟩, ?_⟩
    refine lc_map [] (fun _ => True) (fun _ y => ∃ s, y = .str s ∧ Spelt L s) (fun _ _ => trivial) _ _ _ _ (fun x hx st Q' hI k' => ?_) trivial (by rw [rgP_len]; simp; omega) fun ys st5 hA _ g5 => ?_
    · obtain ⟨j, hj, rfl⟩ := rgP_mem hx
      obtain ⟨a, rfl⟩ := Int.eq_ofNat_of_zero_le a2
      simp only [wSl, oNo, oSo, slR, r_ixs, sSeq, sIf, sAsg, sRet, sRetN, sNext, sDrop, gNm, gIx, gTp, gCn, gNl, tValP, tTru, truP, tNotP, tAndP, tOrP, wOp, wVar, wC, wCa, wCons, wNil, wTup, wLst, wIf, wCall, wNeg, startP, List.map_cons, List.map_nil, List.cons_append, List.nil_append, List.getElem?_cons_zero, List.getElem?_cons_succ, List.length_cons, List.length_nil, Nat.reduceAdd, Nat.reduceSub, List.replicate_succ, List.replicate_zero, List.set_cons_zero, List.set_cons_succ, Option.some.injEq, exists_eq_left', PV.bl.injEq, PV.int.injEq, PV.str.injEq, PV.ref.injEq, PV.tup.injEq, PV.lst.injEq, Cell.lst.injEq, List.cons.injEq, and_true, true_and, exists_and_left, r_add, r_adds, r_addt, r_addl, r_sub, r_mul, r_fdiv, r_mod, r_pow, r_lt, r_le, r_gt, r_ge, r_eqi, r_nei, r_eqs, r_nes, r_inti, r_intb, r_ixr, r_ixl, r_ixt, r_newt, r_newf, atI_0, atI_1, atI_2, decide_eq_true_eq]
      obtain ⟨c, hc, hco⟩ := atI_of (xs := R.cps.toList) (i := (v3 + 3 * (0 + (j : Int))) % 26) (Int.emod_nonneg _ (by decide)) (by have : R.cps.toList.length = 26 := by simpa [Str.length] using hRl
                                                                                                                                    rw [this]; exact Int.emod_lt_of_pos _ (by decide))
      have l1 : (cutS s none (some (a : Int))).length = a := by rw [cut_hi]; omega
      have l2 : (cutS s (some ((a : Int) + 1)) none).length = s.length - (a + 1) := cut_lo s (a + 1)
      have l3 : (⟨#[c]⟩ : Str).length = 1 := rfl
      refine ⟨by omega, .inl (by decide), by decide, by omega, c, hc, by rw [l1, l3]; omega, by omega, by rw [len_app, l1, l2, l3]; omega, k' _ _ ⟨_, rfl, ?_⟩ trivial .refl⟩
      exact hs.put (by omega) (fun z => by rw [← hR0 (by omega)]; exact hco) fun z => by rw [← hR1 (by omega)]; exact hco
    · obtain ⟨ss, rfl, hl, hp⟩ := all2_strs (P := Spelt L) hA
      rw [rgP_len] at hl
      exact kk ss st5 (by omega) hp ((((g1.trans g2).trans g3).trans g4).trans g5.nil) (d4.gr (ds := []) g5 (by simp))

end K06

namespace K06
open PySem PySem.Spec L2 Pv
/-! a drawn term (law's own) -/
def tailW (S_law_draw S_law_pick S_law_term : Spc) : WS :=
  (sSeq (sAsg (wCall 2 S_law_pick (wCons (wVar 0) (wCons (wSl false (wVar 5) (oSo (wCa intR (wCons (wAndT (wOp gtR (wCa lenR (wCons (wVar 5) wNil)) (wC (.int 1))) (wOp gtR (wCall 2 S_law_draw (wCons (wVar 0) (wCons (wC (.int 4)) wNil))) (wC (.int 0)))) wNil))) oNo) wNil))) (gTp 2 (gCn (gNm 6) (gCn (gNm 7) gNl))))
  (sSeq (sAsg (wOp subR (wOp ixR (wVar 4) (wC (.int 0))) (wVar 7)) (gIx (wVar 4) (wC (.int 0))))
  (sSeq (sAsg (wLst true (wCons (wVar 6) wNil)) (gNm 8))
  (sSeq (sFor (iRg1 (wCons (wVar 7) wNil)) (gNm 9)
    (sSeq (sAsg (wOp (addR false) (wOp ixR (wVar 4) (wC (.int 0))) (wC (.int 1))) (gIx (wVar 4) (wC (.int 0))))
  (sDrop (wM "list" appendR (wVar 8) (wCons (wCall 5 S_law_term (wCons (wVar 0) (wCons (wVar 1) (wCons (wVar 2) (wCons (wOp subR (wVar 3) (wC (.int 1))) (wCons (wVar 4) wNil)))))) wNil)))))
  (sRet (wCa tupleR (wCons (wVar 8) wNil)))))))
theorem h_from {k n : Nat} (hk : 1 ≤ k) {acc : List PV} {e1 e2 e3 e4 : Option PV} {rest : Envp} {st : Sto} {Q : PV → Sto → Prop} (hd : DeckOk st n) (hal : acc.length ≤ 5) (q : ∀ (i : Nat) st', (i = 0 ∨ i = 1 ∧ 1 < acc.length) → Gr [n] st st' → DeckOk st' n → Q (.int i) st') :
    (wCa intR (wCons (wAndT (wOp gtR (wCa lenR (wCons (wVar 5) wNil)) (wC (.int 1))) (wOp gtR (wCall 2 (Sem prog k F_law_draw) (wCons (wVar 0) (wCons (wC (.int 4)) wNil))) (wC (.int 0)))) wNil)) (some (.ref n) :: e1 :: e2 :: e3 :: e4 :: some (.lst acc) :: rest) st Q := by
  simp only [wAndT, sSeq, sIf, sAsg, sRet, sRetN, sNext, sDrop, gNm, gIx, gTp, gCn, gNl, tValP, tTru, truP, tNotP, tAndP, tOrP, wOp, wVar, wC, wCa, wCons, wNil, wTup, wLst, wIf, wCall, wNeg, startP, List.map_cons, List.map_nil, List.cons_append, List.nil_append, List.getElem?_cons_zero, List.getElem?_cons_succ, List.length_cons, List.length_nil, Nat.reduceAdd, Nat.reduceSub, List.replicate_succ, List.replicate_zero, List.set_cons_zero, List.set_cons_succ, Option.some.injEq, exists_eq_left', PV.bl.injEq, PV.int.injEq, PV.str.injEq, PV.ref.injEq, PV.tup.injEq, PV.lst.injEq, Cell.lst.injEq, List.cons.injEq, and_true, true_and, exists_and_left, r_add, r_adds, r_addt, r_addl, r_sub, r_mul, r_fdiv, r_mod, r_pow, r_lt, r_le, r_gt, r_ge, r_eqi, r_nei, r_eqs, r_nes, r_inti, r_intb, r_ixr, r_ixl, r_ixt, r_newt, r_newf, atI_0, atI_1, atI_2, decide_eq_true_eq]
  refine r_len rfl ?_
  simp only [r_gt]
  refine ⟨_, rfl, ?_⟩
  split
  · rename_i h
    refine c_draw hk ⟨n, 4, rfl, hd, by decide, by decide, fun v st' v0 v1 g d => ?_⟩
    simp only [r_gt, r_intb]
    have h' : 1 < acc.length := by simp only [decide_eq_true_eq] at h; omega
    split
    · exact q 1 st' (.inr ⟨rfl, h'⟩) g d
    · exact q 0 st' (.inl rfl) g d
  · rename_i h
    simp only [Bool.not_eq_true] at h
    rw [h, r_intb]
    exact q 0 st (.inl rfl) .refl hd
theorem term_loop {d k n l f : Nat} {nm : Str} {names : List Str} {cs : List Int} {unk us : List Str} {deep : Int} {D : EndsP} {e5 e6 e7 e10 : Option PV} (IH : ∀ xs st Q, S_term d xs st Q → Sem prog k F_law_term xs st Q)
    (hnl : n ≠ l) (hfn : f ≠ n) (hfl : f ≠ l) (hP : PoolOk names cs unk) (hu : ∀ s ∈ us, Spelt great s) (hul : us.length ≤ 100) (h1 : 1 < deep) (hdd : deep.toNat ≤ d + 1) :
    ∀ (items : List PV) (as : List Trm) (st : Sto) (e9 : Option PV), as.length + items.length ≤ 3 → (∀ a ∈ as, TOk d a) → DeckOk st n → LeftOk st l → st[f]? = some (.lst (.str nm :: Trm.ps as)) →
      (∀ as' st' e9', as'.length ≤ 3 → (∀ a ∈ as', TOk d a) → Gr [n, l, f] st st' → DeckOk st' n → LeftOk st' l → st'[f]? = some (.lst (.str nm :: Trm.ps as')) → D.nx [some (.ref n), some (poolP names cs unk), some (.lst (pStrs us)), some (.int deep), some (.ref l), e5, e6, e7, some (.ref f), e9', e10] st') →
      forGo (fun _ => True) (gNm 9) (sSeq (sAsg (wOp (addR false) (wOp ixR (wVar 4) (wC (.int 0))) (wC (.int 1))) (gIx (wVar 4) (wC (.int 0))))
  (sDrop (wM "list" appendR (wVar 8) (wCons (wCall 5 (Sem prog k F_law_term) (wCons (wVar 0) (wCons (wVar 1) (wCons (wVar 2) (wCons (wOp subR (wVar 3) (wC (.int 1))) (wCons (wVar 4) wNil)))))) wNil)))) D items
        [some (.ref n), some (poolP names cs unk), some (.lst (pStrs us)), some (.int deep), some (.ref l), e5, e6, e7, some (.ref f), e9, e10] st
  | [], as, st, e9, hl, ha, hd, hlo, hf, kk => ⟨trivial, kk as st e9 (by simpa using hl) ha .refl hd hlo hf⟩
  | x :: items, as, st, e9, hl, ha, hd, hlo, hf, kk => by
    refine ⟨trivial, ?_⟩
    simp only [List.length_cons] at hl
    obtain ⟨z, hz⟩ := hlo
    have hlen : (Trm.ps as).length = as.length := by rw [Trm.ps_map, List.length_map]
    simp only [wM, sSeq, sIf, sAsg, sRet, sRetN, sNext, sDrop, gNm, gIx, gTp, gCn, gNl, tValP, tTru, truP, tNotP, tAndP, tOrP, wOp, wVar, wC, wCa, wCons, wNil, wTup, wLst, wIf, wCall, wNeg, startP, List.map_cons, List.map_nil, List.cons_append, List.nil_append, List.getElem?_cons_zero, List.getElem?_cons_succ, List.length_cons, List.length_nil, Nat.reduceAdd, Nat.reduceSub, List.replicate_succ, List.replicate_zero, List.set_cons_zero, List.set_cons_succ, Option.some.injEq, exists_eq_left', PV.bl.injEq, PV.int.injEq, PV.str.injEq, PV.ref.injEq, PV.tup.injEq, PV.lst.injEq, Cell.lst.injEq, List.cons.injEq, and_true, true_and, exists_and_left, r_add, r_adds, r_addt, r_addl, r_sub, r_mul, r_fdiv, r_mod, r_pow, r_lt, r_le, r_gt, r_ge, r_eqi, r_nei, r_eqs, r_nes, r_inti, r_intb, r_ixr, r_ixl, r_ixt, r_newt, r_newf, atI_0, atI_1, atI_2, decide_eq_true_eq, hz]
    refine ⟨0, by decide, ?_⟩
    have hz1 : (st.set l (.lst ([PV.int z].set 0 (PV.int (z + 1)))))[l]? = some (.lst [PV.int (z + 1)]) := set_at hz
    have g1 : Gr [n, l, f] st (st.set l (.lst ([PV.int z].set 0 (PV.int (z + 1))))) := Gr.set (by simp)
    have g1' : Gr [l] st (st.set l (.lst ([PV.int z].set 0 (PV.int (z + 1))))) := Gr.set (by simp)
    have d1 := hd.gr g1' (by simpa using hnl)
    have f1 := g1'.2 f _ (by simpa using hfl) hf
    generalize st.set l (.lst ([PV.int z].set 0 (PV.int (z + 1)))) = st1 at hz1 g1 g1' d1 f1
    refine ⟨by simp only [tyM, f1], ?_⟩
    refine IH _ _ _ ⟨n, l, names, cs, unk, us, deep - 1, rfl, hnl, d1, ⟨_, hz1⟩, hP, hu, hul, by omega, by omega, fun t st2 ht g2 d2 l2 => ?_⟩
    have f2 := g2.2 f _ (by simp only [List.mem_cons, List.not_mem_nil, or_false, not_or]; exact ⟨hfn, hfl⟩) f1
    have hb : (1000 : Nat) ≤ sizeLine := by decide
    refine ⟨f, _, _, rfl, rfl, f2, by simp only [List.length_cons, hlen]; omega, ?_⟩
    have f3 := set_at (c := .lst (PV.str nm :: Trm.ps as ++ [t.p])) f2
    have g3 : Gr [f] st2 (st2.set f (.lst (PV.str nm :: Trm.ps as ++ [t.p]))) := Gr.set (by simp)
    refine term_loop IH hnl hfn hfl hP hu hul h1 hdd items (as ++ [t]) _ _ (by simp; omega) (fun a m => ?_) (d2.gr g3 (by simpa using Ne.symm hfn)) (l2.gr g3 (by simpa using Ne.symm hfl)) ?_ fun as' st' e9' a1 a2 a3 a4 a5 a6 => kk as' st' e9' a1 a2 ?_ a4 a5 a6
    · rcases List.mem_append.mp m with m | m
      · exact ha a m
      · rw [List.mem_singleton] at m; subst m; exact ht
    · rw [f3, Trm.ps_map, Trm.ps_map, List.map_append]; rfl
    · exact ((g1.trans (g2.sub (by simp +contextual))).trans (g3.sub (by simp))).trans a3
theorem h_tail {d k n l : Nat} {names : List Str} {cs : List Int} {unk us : List Str} {deep : Int} {acc : List PV} {st : Sto} {Q : PV → Sto → Prop} {D : Envp → Sto → Prop} {e10 : Option PV} (IH : ∀ xs st Q, S_term d xs st Q → Sem prog k F_law_term xs st Q) (hk : 2 ≤ k) (hne : n ≠ l) (hd : DeckOk st n) (hl : LeftOk st l) (hP : PoolOk names cs unk) (hu : ∀ s ∈ us, Spelt great s) (hul : us.length ≤ 100) (h1 : 1 ≤ deep) (hdd : deep.toNat ≤ d + 1)
    (hacc : acc ≠ []) (hal : acc.length ≤ 5) (ha : ∀ y ∈ acc, ∃ nm c, y = .tup [.str nm, .int c] ∧ Spelt small nm ∧ 0 ≤ c ∧ c ≤ 3 ∧ (c = 0 ∨ 1 < deep))
    (kk : ∀ t st', TOk (d + 1) t → Gr [n, l] st st' → DeckOk st' n → LeftOk st' l → Q t.p st') :
    tailW (Sem prog k F_law_draw) (Sem prog k F_law_pick) (Sem prog k F_law_term) { nx := D, rt := Q } [some (.ref n), some (poolP names cs unk), some (.lst (pStrs us)), some (.int deep), some (.ref l), some (.lst acc), none, none, none, none, e10] st := by
  have big : (100 : Nat) ≤ sizeLine := by decide
  simp only [tailW, sSeq, sAsg, wCall, wCons, wNil, wVar, wSl, oSo, oNo, slR, lstP, lstS, List.getElem?_cons_zero, List.getElem?_cons_succ, Option.some.injEq, exists_eq_left', PV.int.injEq]
  refine h_from (by omega) hd hal fun i st1 hi g1 d1 => ?_
  refine ⟨_, rfl, ?_⟩
  rw [r_newf, cutL_lo]
  have hne2 : acc.drop i ≠ [] := by
    intro z
    have := congrArg List.length z
    simp only [List.length_drop, List.length_nil] at this
    have : acc.length ≠ 0 := fun q => hacc (List.length_eq_zero_iff.mp q)
    omega
  refine ⟨rfl, c_pick hk ⟨n, _, acc.drop i, rfl, d1, rfl, nofun, hne2, by simp; omega, fun v st2 hv g2 d2 => ?_⟩⟩
  obtain ⟨nm, c, rfl, hnm, c0, c3, hc⟩ := ha v (List.mem_of_mem_drop hv)
  have g12 : Gr [n, l] st st2 := (g1.trans g2).sub (by simp)
  obtain ⟨x, hx⟩ := hl
  have hx2 := (g1.trans g2).2 l _ (by simpa using Ne.symm hne) hx
  simp only [gTp, gCn, gNm, gNl, sFor, iRg1, sSeq, sIf, sAsg, sRet, sRetN, sNext, sDrop, gNm, gIx, gTp, gCn, gNl, tValP, tTru, truP, tNotP, tAndP, tOrP, wOp, wVar, wC, wCa, wCons, wNil, wTup, wLst, wIf, wCall, wNeg, startP, List.map_cons, List.map_nil, List.cons_append, List.nil_append, List.getElem?_cons_zero, List.getElem?_cons_succ, List.length_cons, List.length_nil, Nat.reduceAdd, Nat.reduceSub, List.replicate_succ, List.replicate_zero, List.set_cons_zero, List.set_cons_succ, Option.some.injEq, exists_eq_left', PV.bl.injEq, PV.int.injEq, PV.str.injEq, PV.ref.injEq, PV.tup.injEq, PV.lst.injEq, Cell.lst.injEq, List.cons.injEq, and_true, true_and, exists_and_left, r_add, r_adds, r_addt, r_addl, r_sub, r_mul, r_fdiv, r_mod, r_pow, r_lt, r_le, r_gt, r_ge, r_eqi, r_nei, r_eqs, r_nes, r_inti, r_intb, r_ixr, r_ixl, r_ixt, r_newt, r_newf, atI_0, atI_1, atI_2, decide_eq_true_eq, hx2]
  refine ⟨_, _, ⟨rfl, rfl⟩, _, _, rfl, rfl, ?_⟩
  simp only [r_sub]
  refine ⟨_, hx2, 0, by simp [ixN], by omega, c, rfl, ⟨by omega, by omega⟩, ?_⟩
  have hz3 : (st2.set l (.lst ([PV.int x].set 0 (PV.int (x - c)))))[l]? = some (.lst [PV.int (x - c)]) := set_at hx2
  have g3 : Gr [l] st2 (st2.set l (.lst ([PV.int x].set 0 (PV.int (x - c))))) := Gr.set (by simp)
  have d3 := d2.gr g3 (by simpa using hne)
  generalize st2.set l (.lst ([PV.int x].set 0 (PV.int (x - c)))) = st3 at hz3 g3 d3
  have hl3 : l < st3.length := (List.getElem?_eq_some_iff.mp hz3).1
  have hn3 : n < st3.length := by obtain ⟨a, b, c, e⟩ := d3; exact (List.getElem?_eq_some_iff.mp e).1
  have gn : Gr [] st3 (st3 ++ [Cell.lst [PV.str nm]]) := Gr.new
  have fin : ∀ as' st' e9', as'.length ≤ 3 → (∀ a ∈ as', TOk d a) → Gr [n, l, st3.length] (st3 ++ [Cell.lst [PV.str nm]]) st' → DeckOk st' n → LeftOk st' l → st'[st3.length]? = some (.lst (.str nm :: Trm.ps as')) →
      (sRet (wCa tupleR (wCons (wVar 8) wNil)) { nx := D, rt := Q }) [some (.ref n), some (poolP names cs unk), some (.lst (pStrs us)), some (.int deep), some (.ref l), some (.lst acc), some (.str nm), some (.int c), some (.ref st3.length), e9', e10] st' := fun as' st' e9' a1 a2 a3 a4 a5 a6 => by
    simp only [sSeq, sIf, sAsg, sRet, sRetN, sNext, sDrop, gNm, gIx, gTp, gCn, gNl, tValP, tTru, truP, tNotP, tAndP, tOrP, wOp, wVar, wC, wCa, wCons, wNil, wTup, wLst, wIf, wCall, wNeg, startP, List.map_cons, List.map_nil, List.cons_append, List.nil_append, List.getElem?_cons_zero, List.getElem?_cons_succ, List.length_cons, List.length_nil, Nat.reduceAdd, Nat.reduceSub, List.replicate_succ, List.replicate_zero, List.set_cons_zero, List.set_cons_succ, Option.some.injEq, exists_eq_left', PV.bl.injEq, PV.int.injEq, PV.str.injEq, PV.ref.injEq, PV.tup.injEq, PV.lst.injEq, Cell.lst.injEq, List.cons.injEq, and_true, true_and, exists_and_left, r_add, r_adds, r_addt, r_addl, r_sub, r_mul, r_fdiv, r_mod, r_pow, r_lt, r_le, r_gt, r_ge, r_eqi, r_nei, r_eqs, r_nes, r_inti, r_intb, r_ixr, r_ixl, r_ixt, r_newt, r_newf, atI_0, atI_1, atI_2, decide_eq_true_eq]
    refine ⟨.ref st3.length, .str nm :: Trm.ps as', rfl, by simp only [seqP, lstP, lstS, a6], ?_⟩
    refine kk (.f nm as') st' ⟨hnm, a1, a2⟩ ?_ a4 a5
    have g4 : Gr [st3.length, n, l] st3 st' := (gn.nil).trans (a3.sub (by simp +contextual))
    exact (g12.trans (g3.sub (by simp))).trans (g4.drop (Nat.le_refl _))
  have f4 : (st3 ++ [Cell.lst [PV.str nm]])[st3.length]? = some (.lst (.str nm :: Trm.ps [])) := by simp [Trm.ps]
  have d4 := d3.gr gn (by simp)
  have l4 : LeftOk (st3 ++ [Cell.lst [PV.str nm]]) l := LeftOk.gr ⟨_, hz3⟩ gn (by simp)
  rcases hc with rfl | hdp
  · exact ⟨trivial, fin [] _ none (by simp) (by simp) .refl d4 l4 f4⟩
  · exact term_loop (D := { nx := sRet (wCa tupleR (wCons (wVar 8) wNil)) { nx := D, rt := Q }, rt := Q }) IH hne (by omega) (by omega) hP hu hul hdp hdd (rgP 0 c.toNat) [] _ none (by rw [rgP_len]; simp; omega) (by simp) d4 l4 f4 fin
theorem c_term : ∀ (d k : Nat) (xs : List PV) (sto : Sto) (Q : PV → Sto → Prop), d + 2 ≤ k → S_term d xs sto Q → Sem prog k F_law_term xs sto Q
  | 0, k, xs, sto, Q, hk, h => by
    obtain ⟨n, l, names, cs, unk, us, deep, rfl, hne, hd, hx, hP, hu, hul, h1, hdd, _⟩ := h
    omega
  | d + 1, k, xs, sto, Q, hk, h => by
    obtain ⟨k, rfl⟩ : ∃ j, k = j + 1 := ⟨k - 1, by omega⟩
    refine go_law_term ?_
    have IH := fun xs sto Q => c_term d k xs sto Q (by omega)
    obtain ⟨n, l, names, cs, unk, us, deep, rfl, hne, hd, ⟨x, hx⟩, hP, hu, hul, h1, hdd, kk⟩ := h
    show (sSeq _ (sSeq _ (sSeq _ (tailW (Sem prog k F_law_draw) (Sem prog k F_law_pick) (Sem prog k F_law_term))))) _ _ _
    simp only [wLc, iVal, wipeP, sSeq, sIf, sAsg, sRet, sRetN, sNext, sDrop, gNm, gIx, gTp, gCn, gNl, tValP, tTru, truP, tNotP, tAndP, tOrP, wOp, wVar, wC, wCa, wCons, wNil, wTup, wLst, wIf, wCall, wNeg, startP, List.map_cons, List.map_nil, List.cons_append, List.nil_append, List.getElem?_cons_zero, List.getElem?_cons_succ, List.length_cons, List.length_nil, Nat.reduceAdd, Nat.reduceSub, List.replicate_succ, List.replicate_zero, List.set_cons_zero, List.set_cons_succ, Option.some.injEq, exists_eq_left', PV.bl.injEq, PV.int.injEq, PV.str.injEq, PV.ref.injEq, PV.tup.injEq, PV.lst.injEq, Cell.lst.injEq, List.cons.injEq, and_true, true_and, exists_and_left, r_add, r_adds, r_addt, r_addl, r_sub, r_mul, r_fdiv, r_mod, r_pow, r_lt, r_le, r_gt, r_ge, r_eqi, r_nei, r_eqs, r_nes, r_inti, r_intb, r_ixr, r_ixl, r_ixt, r_newt, r_newf, atI_0, atI_1, atI_2, decide_eq_true_eq, hx]
    refine ⟨0, by decide, ?_⟩
    have hl0 : (sto.set l (.lst ([PV.int x].set 0 (PV.int (x - 1)))))[l]? = some (.lst [PV.int (x - 1)]) := set_at hx
    have g0 : Gr [n, l] sto (sto.set l (.lst ([PV.int x].set 0 (PV.int (x - 1))))) := Gr.set (by simp)
    have d0 : DeckOk (sto.set l (.lst ([PV.int x].set 0 (PV.int (x - 1))))) n := hd.gr (ds := [l]) (Gr.set (by simp)) (by simpa using hne)
    generalize sto.set l (.lst ([PV.int x].set 0 (PV.int (x - 1)))) = st0 at hl0 g0 d0 ⊢
    have hz5 : (zipP (pStrs names) (pInts cs)).length ≤ 5 := by
      unfold zipP pStrs pInts
      simp [hP.nl, hP.cl]
    have big : (100 : Nat) ≤ sizeLine := by decide
    refine ⟨_, _, .inr (Str.ofString "signs"), .lst (zipP (pStrs names) (pInts cs)), rfl, rfl, by simp [getP], _, rfl, ?_⟩
    refine lc_filter (fits deep (x - 1)) _ _ _ _ trivial (fun y hy Q' q => ?_) (by simp) (by simp; omega) ?_
    · obtain ⟨nm, c, rfl, _, _⟩ := zip_mem hy
      simp only [sSeq, sIf, sAsg, sRet, sRetN, sNext, sDrop, gNm, gIx, gTp, gCn, gNl, tValP, tTru, truP, tNotP, tAndP, tOrP, wOp, wVar, wC, wCa, wCons, wNil, wTup, wLst, wIf, wCall, wNeg, startP, List.map_cons, List.map_nil, List.cons_append, List.nil_append, List.getElem?_cons_zero, List.getElem?_cons_succ, List.length_cons, List.length_nil, Nat.reduceAdd, Nat.reduceSub, List.replicate_succ, List.replicate_zero, List.set_cons_zero, List.set_cons_succ, Option.some.injEq, exists_eq_left', PV.bl.injEq, PV.int.injEq, PV.str.injEq, PV.ref.injEq, PV.tup.injEq, PV.lst.injEq, Cell.lst.injEq, List.cons.injEq, and_true, true_and, exists_and_left, r_add, r_adds, r_addt, r_addl, r_sub, r_mul, r_fdiv, r_mod, r_pow, r_lt, r_le, r_gt, r_ge, r_eqi, r_nei, r_eqs, r_nes, r_inti, r_intb, r_ixr, r_ixl, r_ixt, r_newt, r_newf, atI_0, atI_1, atI_2, decide_eq_true_eq, hl0, fits] at q ⊢
      cases e1 : (c == 0) with
      | true =>
        rw [e1, Bool.true_or] at q
        rw [if_pos rfl]; exact q
      | false =>
        rw [e1, Bool.false_or] at q
        rw [if_neg Bool.false_ne_true]
        split
        · rename_i h; rw [decide_eq_true h, Bool.true_and] at q; exact q
        · rename_i h; rw [decide_eq_false h, Bool.false_and] at q; exact q
    · have l0 : LeftOk st0 l := ⟨_, hl0⟩
      have tail : ∀ st1, Gr [n] st0 st1 → DeckOk st1 n → tailW (Sem prog k F_law_draw) (Sem prog k F_law_pick) (Sem prog k F_law_term) { nx := fun x st' => Q PV.non st', rt := Q }
          [some (.ref n), some (poolP names cs unk), some (.lst (pStrs us)), some (.int deep), some (.ref l), some (.lst ([] ++ List.filter (fits deep (x - 1)) (zipP (pStrs names) (pInts cs)))), none, none, none, none, none] st1 := fun st1 g1 d1 => by
        refine h_tail IH (by omega) hne d1 (l0.gr g1 (by simpa using Ne.symm hne)) hP hu hul h1 hdd ?_ ?_ (fun y m => ?_) fun t st' ht g2 d2 l2 => kk t st' ht ((g0.trans (g1.sub (by simp))).trans g2) d2 l2
        · obtain ⟨r, rfl⟩ := hP.c0
          have hnl := hP.nl
          cases names with
          | nil => cases hnl
          | cons nm names =>
            have : zipP (pStrs (nm :: names)) (pInts (0 :: r)) = .tup [.str nm, .int 0] :: zipP (pStrs names) (pInts r) := rfl
            rw [this]
            simp [fits]
        · simp only [List.nil_append]
          exact Nat.le_trans (List.length_filter_le _ _) hz5
        · simp only [List.nil_append, List.mem_filter] at m
          obtain ⟨nm, c, rfl, m1, m2⟩ := zip_mem m.1
          have := hP.cb c m2
          refine ⟨nm, c, rfl, hP.ng nm m1, this.1, this.2, ?_⟩
          have m3 := m.2
          simp only [fits, Bool.or_eq_true, beq_iff_eq, Bool.and_eq_true, decide_eq_true_eq] at m3
          rcases m3 with m3 | m3
          · exact .inl m3
          · exact .inr m3.1
      refine ⟨Nat.zero_le _, ne_nil (fun s m => (hu s m).ok great_ok) ⟨_, rfl, ?_⟩⟩
      split
      · rename_i hne0
        refine c_draw (by omega) ⟨n, 3, rfl, d0, by decide, by decide, fun v st1 v0 v1 g1 d1 => ?_⟩
        refine r_eqi.mpr ?_
        refine ⟨_, rfl, ?_⟩
        split
        · refine c_pick (by omega) ⟨n, _, pStrs us, rfl, d1, rfl, nofun, ?_, by unfold pStrs; rw [List.length_map]; omega, fun w st2 hw g2 d2 => ?_⟩
          · intro z
            cases us with
            | nil => cases hne0
            | cons _ _ => cases z
          · unfold pStrs at hw
            obtain ⟨s, ms, rfl⟩ := List.mem_map.mp hw
            exact kk (.u s) st2 (TOk.u.mpr (hu s ms)) ((g0.trans (g1.sub (by simp))).trans (g2.sub (by simp))) d2 ((l0.gr g1 (by simpa using Ne.symm hne)).gr g2 (by simpa using Ne.symm hne))
        · exact tail st1 g1 d1
      · rw [if_neg Bool.false_ne_true]
        exact tail st0 .refl d0

end K06

namespace K06
open PySem PySem.Spec L2 Pv
section
variable {lv : Nat} {st : Sto} {Q : PV → Sto → Prop}
theorem signs_in {gd : Sto → Prop} {i : Nat} {env : Envp} {L : Str} (hi : i < env.length) : ∀ (cs : List Nat) (bs : List Bool) (st : Sto) (kk : List PV → Sto → Prop), (∀ s, gd s) → (∀ c ∈ cs, c ∈ L.cps.toList) → (∀ b ∈ bs, b = true) → bs.length + cs.length ≤ 100 →
    (∀ bs' : List Bool, (∀ b ∈ bs', b = true) → kk (pBls bs') st) → lcGo gd (gNm i) tYesP (wOp inSR (wVar i) (wC (.str L))) env (cs.map fun c => PV.str ⟨#[c]⟩) (pBls bs) st kk
  | [], bs, st, kk, hg, hc, hb, hl, k => ⟨hg st, k bs hb⟩
  | c :: cs, bs, st, kk, hg, hc, hb, hl, k => by
    have big : (100 : Nat) ≤ sizeLine := by decide
    simp only [List.length_cons] at hl
    refine ⟨hg st, ?_⟩
    simp only [gNm, tYesP, if_true, wOp, wVar, wC]
    refine ⟨_, List.getElem?_set_self hi, c, L, rfl, rfl, ?_, ?_⟩
    · simp only [pBls, List.length_map]; omega
    · have e : pBls bs ++ [PV.bl (decide (c ∈ L.cps.toList))] = pBls (bs ++ [true]) := by
        rw [decide_eq_true (hc c List.mem_cons_self)]
        simp [pBls]
      rw [e]
      refine signs_in hi cs _ st kk hg (fun x m => hc x (List.mem_cons_of_mem _ m)) (fun b m => ?_) (by simp; omega) k
      rcases List.mem_append.mp m with m | m
      · exact hb b m
      · rw [List.mem_singleton] at m; exact m
def isp2 : WS := (sSeq (sAsg (wVar 0) (gStar false 2 1 (gCn (gNm 2) (gCn (gNm 3) gNl))))
  (sRet (wAndT (wOp inSR (wVar 2) (wVar 1)) (wCa allR (wCons (wLc false (iVal (wVar 3)) (gNm 4) tYesP (wOp inSR (wVar 4) (wC (.str "abcdefghijklmnopqrstuvwxyz"))) [4]) wNil)))))
theorem c_is_spelt (hlv : 1 ≤ lv) {L s : Str} {c : Nat} {r : List Nat} (e : s.cps.toList = c :: r) (hr : ∀ x ∈ r, x ∈ small.cps.toList) (hl : r.length ≤ 5) (q : Q (.bl (decide (c ∈ L.cps.toList))) st) : Sem prog lv F_is_spelt [.str s, .str L] st Q := by
  obtain ⟨lv, rfl⟩ : ∃ j, lv = j + 1 := ⟨lv - 1, by omega⟩
  refine go_is_spelt ?_
  have hs : s.length = r.length + 1 := by rw [← len_list, e]; rfl
  have big : (100 : Nat) ≤ sizeLine := by decide
  have hsg : signsP s = PV.str ⟨#[c]⟩ :: r.map fun c => PV.str ⟨#[c]⟩ := by unfold signsP; rw [e]; rfl
  have hlen : (signsP s).length = r.length + 1 := by rw [hsg]; simp
  show (sSeq _ isp2) _ _ _
  have tail : isp2 { nx := fun x st' => Q PV.non st', rt := Q } [some (PV.str s), some (PV.str L), none, none, none] st := by
    simp only [isp2, gStar, unpS, wAndT, wLc, iVal, wipeP, sSeq, sIf, sAsg, sRet, sRetN, sNext, sDrop, gNm, gIx, gTp, gCn, gNl, tValP, tTru, truP, tNotP, tAndP, tOrP, wOp, wVar, wC, wCa, wCons, wNil, wTup, wLst, wIf, wCall, wNeg, startP, List.map_cons, List.map_nil, List.cons_append, List.nil_append, List.getElem?_cons_zero, List.getElem?_cons_succ, List.length_cons, List.length_nil, Nat.reduceAdd, Nat.reduceSub, List.replicate_succ, List.replicate_zero, List.set_cons_zero, List.set_cons_succ, Option.some.injEq, exists_eq_left', PV.bl.injEq, PV.int.injEq, PV.str.injEq, PV.ref.injEq, PV.tup.injEq, PV.lst.injEq, Cell.lst.injEq, List.cons.injEq, and_true, true_and, exists_and_left, r_add, r_adds, r_addt, r_addl, r_sub, r_mul, r_fdiv, r_mod, r_pow, r_lt, r_le, r_gt, r_ge, r_eqi, r_nei, r_eqs, r_nes, r_inti, r_intb, r_ixr, r_ixl, r_ixt, r_newt, r_newf, atI_0, atI_1, atI_2, decide_eq_true_eq]
    refine ⟨by omega, by omega, .str ⟨#[c]⟩, [.lst (r.map fun c => PV.str ⟨#[c]⟩)], ?_, _, _, rfl, rfl, c, L, rfl, rfl, _, rfl, ?_⟩
    · rw [hlen, hsg, show r.length + 1 + 1 - 2 = r.length by omega]
      simp
      exact List.take_of_length_le (by simp)
    · by_cases hc : c ∈ L.cps.toList
      · rw [decide_eq_true hc] at q ⊢
        rw [if_pos rfl]
        refine ⟨_, rfl, ?_⟩
        refine signs_in (bs := []) (by simp) r st _ (fun _ => trivial) hr (by simp) (by simp; omega) fun bs hb => ?_
        refine ⟨_, bs, rfl, rfl, ?_⟩
        rw [show bs.all id = true by simpa using hb]
        exact q
      · rw [decide_eq_false hc] at q ⊢
        rw [if_neg Bool.false_ne_true]
        exact q
  generalize isp2 = T at tail ⊢
  simp only [wIsi, tyP, isiB, tChainP, sSeq, sIf, sAsg, sRet, sRetN, sNext, sDrop, gNm, gIx, gTp, gCn, gNl, tValP, tTru, truP, tNotP, tAndP, tOrP, wOp, wVar, wC, wCa, wCons, wNil, wTup, wLst, wIf, wCall, wNeg, startP, List.map_cons, List.map_nil, List.cons_append, List.nil_append, List.getElem?_cons_zero, List.getElem?_cons_succ, List.length_cons, List.length_nil, Nat.reduceAdd, Nat.reduceSub, List.replicate_succ, List.replicate_zero, List.set_cons_zero, List.set_cons_succ, Option.some.injEq, exists_eq_left', PV.bl.injEq, PV.int.injEq, PV.str.injEq, PV.ref.injEq, PV.tup.injEq, PV.lst.injEq, Cell.lst.injEq, List.cons.injEq, and_true, true_and, exists_and_left, r_add, r_adds, r_addt, r_addl, r_sub, r_mul, r_fdiv, r_mod, r_pow, r_lt, r_le, r_gt, r_ge, r_eqi, r_nei, r_eqs, r_nes, r_inti, r_intb, r_ixr, r_ixl, r_ixt, r_newt, r_newf, atI_0, atI_1, atI_2, decide_eq_true_eq]
  refine ⟨_, rfl, ?_⟩
  simp only [beq_self_eq_true, if_true, Bool.not_true, Bool.false_eq_true, if_false, r_lens, r_le, PV.bl.injEq, exists_eq_left']
  refine ⟨by omega, ?_⟩
  rw [if_pos (by simp; omega)]
  rw [if_neg (by simp; omega)]
  exact tail
theorem let_great {c : Nat} (h : c ∈ small.cps.toList) : c ∉ great.cps.toList := small_not_great h
theorem c_unk (hlv : 2 ≤ lv) {s : Str} {b : Bool} (h : Spelt (if b then great else small) s) (q : Q (.bl b) st) : Sem prog lv F_is_unknown [.str s] st Q := by
  obtain ⟨lv, rfl⟩ : ∃ j, lv = j + 1 := ⟨lv - 1, by omega⟩
  refine go_is_unknown ?_
  obtain ⟨c, r, e, h1, h2, h3⟩ := h
  simp only [w_is_unknown, sSeq, sIf, sAsg, sRet, sRetN, sNext, sDrop, gNm, gIx, gTp, gCn, gNl, tValP, tTru, truP, tNotP, tAndP, tOrP, wOp, wVar, wC, wCa, wCons, wNil, wTup, wLst, wIf, wCall, wNeg, startP, List.map_cons, List.map_nil, List.cons_append, List.nil_append, List.getElem?_cons_zero, List.getElem?_cons_succ, List.length_cons, List.length_nil, Nat.reduceAdd, Nat.reduceSub, List.replicate_succ, List.replicate_zero, List.set_cons_zero, List.set_cons_succ, Option.some.injEq, exists_eq_left', PV.bl.injEq, PV.int.injEq, PV.str.injEq, PV.ref.injEq, PV.tup.injEq, PV.lst.injEq, Cell.lst.injEq, List.cons.injEq, and_true, true_and, exists_and_left, r_add, r_adds, r_addt, r_addl, r_sub, r_mul, r_fdiv, r_mod, r_pow, r_lt, r_le, r_gt, r_ge, r_eqi, r_nei, r_eqs, r_nes, r_inti, r_intb, r_ixr, r_ixl, r_ixt, r_newt, r_newf, atI_0, atI_1, atI_2, decide_eq_true_eq]
  refine c_is_spelt (by omega) e h2 h3 ?_
  show Q (.bl (decide (c ∈ great.cps.toList))) st
  cases b with
  | true => rw [decide_eq_true (by simpa using h1)]; exact q
  | false => rw [decide_eq_false (small_not_great (by simpa using h1))]; exact q
theorem c_nam (hlv : 2 ≤ lv) {s : Str} (h : Spelt small s) (q : Q (.bl true) st) : Sem prog lv F_is_name [.str s] st Q := by
  obtain ⟨lv, rfl⟩ : ∃ j, lv = j + 1 := ⟨lv - 1, by omega⟩
  refine go_is_name ?_
  obtain ⟨c, r, e, h1, h2, h3⟩ := h
  simp only [w_is_name, sSeq, sIf, sAsg, sRet, sRetN, sNext, sDrop, gNm, gIx, gTp, gCn, gNl, tValP, tTru, truP, tNotP, tAndP, tOrP, wOp, wVar, wC, wCa, wCons, wNil, wTup, wLst, wIf, wCall, wNeg, startP, List.map_cons, List.map_nil, List.cons_append, List.nil_append, List.getElem?_cons_zero, List.getElem?_cons_succ, List.length_cons, List.length_nil, Nat.reduceAdd, Nat.reduceSub, List.replicate_succ, List.replicate_zero, List.set_cons_zero, List.set_cons_succ, Option.some.injEq, exists_eq_left', PV.bl.injEq, PV.int.injEq, PV.str.injEq, PV.ref.injEq, PV.tup.injEq, PV.lst.injEq, Cell.lst.injEq, List.cons.injEq, and_true, true_and, exists_and_left, r_add, r_adds, r_addt, r_addl, r_sub, r_mul, r_fdiv, r_mod, r_pow, r_lt, r_le, r_gt, r_ge, r_eqi, r_nei, r_eqs, r_nes, r_inti, r_intb, r_ixr, r_ixl, r_ixt, r_newt, r_newf, atI_0, atI_1, atI_2, decide_eq_true_eq]
  refine c_is_spelt (by omega) e h2 h3 ?_
  show Q (.bl (decide (c ∈ small.cps.toList))) st
  rw [decide_eq_true h1]; exact q
theorem c_must (hlv : 1 ≤ lv) (q : Q .non st) : Sem prog lv F_must [.bl true] st Q := by
  obtain ⟨lv, rfl⟩ : ∃ j, lv = j + 1 := ⟨lv - 1, by omega⟩
  refine go_must ?_
  simp only [w_must, sSeq, sIf, sAsg, sRet, sRetN, sNext, sDrop, gNm, gIx, gTp, gCn, gNl, tValP, tTru, truP, tNotP, tAndP, tOrP, wOp, wVar, wC, wCa, wCons, wNil, wTup, wLst, wIf, wCall, wNeg, startP, List.map_cons, List.map_nil, List.cons_append, List.nil_append, List.getElem?_cons_zero, List.getElem?_cons_succ, List.length_cons, List.length_nil, Nat.reduceAdd, Nat.reduceSub, List.replicate_succ, List.replicate_zero, List.set_cons_zero, List.set_cons_succ, Option.some.injEq, exists_eq_left', PV.bl.injEq, PV.int.injEq, PV.str.injEq, PV.ref.injEq, PV.tup.injEq, PV.lst.injEq, Cell.lst.injEq, List.cons.injEq, and_true, true_and, exists_and_left, r_add, r_adds, r_addt, r_addl, r_sub, r_mul, r_fdiv, r_mod, r_pow, r_lt, r_le, r_gt, r_ge, r_eqi, r_nei, r_eqs, r_nes, r_inti, r_intb, r_ixr, r_ixl, r_ixt, r_newt, r_newf, atI_0, atI_1, atI_2, decide_eq_true_eq]
  exact q
theorem letters_mem {c : Nat} : c ∈ (Str.ofString "abcdefghijklmnopqrstuvwxyz" ++ Str.ofString "ABCDEFGHIJKLMNOPQRSTUVWXYZ").cps.toList ↔ isLet c := by
  rw [cps_app, List.mem_append]; exact Iff.rfl
theorem at_mid {pre w rest : List Nat} {z : Str} (h : z.cps.toList = pre ++ w ++ rest) {j : Nat} (hj : j < w.length) : atI z.cps.toList ((pre.length + j : Nat) : Int) = some w[j] := by
  refine atI_nat ?_
  rw [h, List.append_assoc, List.getElem?_append_right (by omega), Nat.add_sub_cancel_left, List.getElem?_append_left hj, List.getElem?_eq_getElem hj]
theorem c_wend (hlv : 1 ≤ lv) {z : Str} {pre w rest : List Nat} (hz : z.cps.toList = pre ++ w ++ rest) (hl : z.length ≤ sizeLine) (hw : ∀ c ∈ w, isLet c) (hr : Stop rest) (q : Q (.int ((pre.length + w.length : Nat) : Int)) st) : Sem prog lv F_word_end [.str z, .int (pre.length : Nat)] st Q := by
  obtain ⟨lv, rfl⟩ : ∃ j, lv = j + 1 := ⟨lv - 1, by omega⟩
  refine go_word_end ?_
  have hlen : z.length = pre.length + w.length + rest.length := by rw [← len_list, hz]; simp [Nat.add_assoc]
  simp only [w_word_end, sWhile, sSeq, sIf, sAsg, sRet, sRetN, sNext, sDrop, gNm, gIx, gTp, gCn, gNl, tValP, tTru, truP, tNotP, tAndP, tOrP, wOp, wVar, wC, wCa, wCons, wNil, wTup, wLst, wIf, wCall, wNeg, startP, List.map_cons, List.map_nil, List.cons_append, List.nil_append, List.getElem?_cons_zero, List.getElem?_cons_succ, List.length_cons, List.length_nil, Nat.reduceAdd, Nat.reduceSub, List.replicate_succ, List.replicate_zero, List.set_cons_zero, List.set_cons_succ, Option.some.injEq, exists_eq_left', PV.bl.injEq, PV.int.injEq, PV.str.injEq, PV.ref.injEq, PV.tup.injEq, PV.lst.injEq, Cell.lst.injEq, List.cons.injEq, and_true, true_and, exists_and_left, r_add, r_adds, r_addt, r_addl, r_sub, r_mul, r_fdiv, r_mod, r_pow, r_lt, r_le, r_gt, r_ge, r_eqi, r_nei, r_eqs, r_nes, r_inti, r_intb, r_ixr, r_ixl, r_ixt, r_newt, r_newf, atI_0, atI_1, atI_2, decide_eq_true_eq]
  refine ⟨fun m env st' => ∃ j, j ≤ w.length ∧ m = w.length - j ∧ st' = st ∧ env = [some (.str z), some (.int (pre.length : Nat)), some (.int ((pre.length + j : Nat) : Int))], ⟨w.length, 0, by omega, by omega, rfl, rfl⟩, ?_⟩
  rintro m env st' ⟨j, hj, rfl, rfl, rfl⟩
  simp only [sSeq, sIf, sAsg, sRet, sRetN, sNext, sDrop, gNm, gIx, gTp, gCn, gNl, tValP, tTru, truP, tNotP, tAndP, tOrP, wOp, wVar, wC, wCa, wCons, wNil, wTup, wLst, wIf, wCall, wNeg, startP, List.map_cons, List.map_nil, List.cons_append, List.nil_append, List.getElem?_cons_zero, List.getElem?_cons_succ, List.length_cons, List.length_nil, Nat.reduceAdd, Nat.reduceSub, List.replicate_succ, List.replicate_zero, List.set_cons_zero, List.set_cons_succ, Option.some.injEq, exists_eq_left', PV.bl.injEq, PV.int.injEq, PV.str.injEq, PV.ref.injEq, PV.tup.injEq, PV.lst.injEq, Cell.lst.injEq, List.cons.injEq, and_true, true_and, exists_and_left, r_add, r_adds, r_addt, r_addl, r_sub, r_mul, r_fdiv, r_mod, r_pow, r_lt, r_le, r_gt, r_ge, r_eqi, r_nei, r_eqs, r_nes, r_inti, r_intb, r_ixr, r_ixl, r_ixt, r_newt, r_newf, atI_0, atI_1, atI_2, decide_eq_true_eq, r_lens, r_lt, r_ixs]
  have b52 : (Str.ofString "abcdefghijklmnopqrstuvwxyz").length + (Str.ofString "ABCDEFGHIJKLMNOPQRSTUVWXYZ").length ≤ sizeLine := by decide +kernel
  refine ⟨hl, ?_⟩
  by_cases hjw : j < w.length
  · rw [if_pos (by omega)]
    refine ⟨hl, w[j], at_mid hz hjw, b52, _, _, rfl, rfl, true, ?_, ?_⟩
    · rw [decide_eq_true (letters_mem.mpr (hw _ (List.getElem_mem _)))]
    · rw [if_pos rfl]
      refine ⟨fun env st2 => st2 = st' ∧ env = [some (.str z), some (.int (pre.length : Nat)), some (.int ((pre.length + (j + 1) : Nat) : Int))], ?_, _, _, rfl, rfl, rfl, ?_⟩
      · rintro env st2 ⟨rfl, rfl⟩
        exact ⟨w.length - (j + 1), by omega, j + 1, by omega, rfl, rfl, rfl⟩
      · rw [show ((pre.length + (j + 1) : Nat) : Int) = ((pre.length + j : Nat) : Int) + 1 by omega]
  · have hj' : j = w.length := by omega
    subst hj'
    cases rest with
    | nil =>
      rw [if_neg (by simp at hlen; omega), if_neg Bool.false_ne_true]
      exact q
    | cons c r =>
      simp only [List.length_cons] at hlen
      rw [if_pos (by omega)]
      refine ⟨hl, c, ?_, b52, _, _, rfl, rfl, false, ?_, ?_⟩
      · refine atI_nat ?_
        rw [hz, List.getElem?_append_right (by simp), List.length_append, Nat.sub_self]; rfl
      · rw [decide_eq_false fun h => hr c r rfl (letters_mem.mp h)]
      · rw [if_neg Bool.false_ne_true]; exact q
theorem cut_mid {z : Str} {pre w rest : List Nat} (h : z.cps.toList = pre ++ w ++ rest) : cutS z (some ((pre.length : Nat) : Int)) (some ((pre.length + w.length : Nat) : Int)) = ⟨w.toArray⟩ := by
  have hl : z.length = pre.length + w.length + rest.length := by rw [← len_list, h]; simp [Nat.add_assoc]
  unfold cutS
  rw [HT.sIx_nat, HT.sIx_nat, Nat.min_eq_left (by omega), Nat.min_eq_left (by omega), h, List.append_assoc, List.drop_left, Nat.add_sub_cancel_left, List.take_left]
theorem cut_one {z : Str} {pre rest : List Nat} {c : Nat} (h : z.cps.toList = pre ++ c :: rest) : cutS z (some ((pre.length : Nat) : Int)) (some (((pre.length : Nat) : Int) + 1)) = ⟨#[c]⟩ :=
  cut_mid (w := [c]) (rest := rest) (by rw [h]; simp)
theorem cut_end {z : Str} {pre : List Nat} (h : z.cps.toList = pre) : cutS z (some ((pre.length : Nat) : Int)) (some (((pre.length : Nat) : Int) + 1)) = ⟨#[]⟩ := by
  have hl : z.length = pre.length := by rw [← len_list, h]
  unfold cutS
  rw [show (((pre.length : Nat) : Int) + 1) = ((pre.length + 1 : Nat) : Int) by omega, HT.sIx_nat, HT.sIx_nat, h, List.drop_of_length_le (by omega)]
  simp
theorem word_str (s : Str) : (⟨s.cps.toList.toArray⟩ : Str) = s := by cases s; simp
def loopB (S : Spc) : WS := (sSeq (sAsg (wCall 3 S (wCons (wVar 0) (wCons (wOp (addR false) (wVar 3) (wC (.int 1))) (wCons (wOp (addR false) (wVar 2) (wC (.int 1))) wNil)))) (gTp 2 (gCn (gNm 7) (gCn (gNm 3) gNl))))
  (sSeq (sDrop (wM "list" appendR (wVar 5) (wCons (wVar 7) wNil)))
  (sAsg (wC (.str ",")) (gNm 6))))
def loopW (S : Spc) : WS := sWhile (tAndP (tValP (wOp eqA (wSl false (wVar 0) (oSo (wVar 3)) (oSo (wOp (addR false) (wVar 3) (wC (.int 1))))) (wVar 6))) (tValP (wOp leR (wCa lenR (wCons (wVar 5) wNil)) (wC (.int 3))))) (loopB S)
def endW (S_must : Spc) : WS := (sSeq (sIf (tValP (wOp gtR (wCa lenR (wCons (wVar 5) wNil)) (wC (.int 1)))) (sSeq (sDrop (wCall 1 S_must (wCons (wOp eqA (wSl false (wVar 0) (oSo (wVar 3)) (oSo (wOp (addR false) (wVar 3) (wC (.int 1))))) (wC (.str ")"))) wNil)))
  (sAsg (wOp iaddR (wVar 3) (wC (.int 1))) (gNm 3))) sNext)
  (sRet (wTup (wCons (wCa tupleR (wCons (wVar 5) wNil)) (wCons (wVar 3) wNil)))))
theorem end_ok (hlv : 1 ≤ lv) {z s : Str} {pre post : List Nat} {as : List Trm} {f : Nat} {e1 e2 e4 e6 e7 : Option PV} {D : Envp → Sto → Prop} (hf : st[f]? = some (.lst (.str s :: Trm.ps as))) (hl : z.length ≤ sizeLine)
    (h : as = [] ∧ z.cps.toList = pre ++ post ∨ as ≠ [] ∧ z.cps.toList = pre ++ 41 :: post) (q : Q (.tup [(Trm.f s as).p, .int ((z.length - post.length : Nat) : Int)]) st) :
    endW (Sem prog lv F_must) { nx := D, rt := Q } [some (.str z), e1, e2, some (.int (pre.length : Nat)), e4, some (.ref f), e6, e7] st := by
  have hs : seqP st (.ref f) = some (.str s :: Trm.ps as) := by simp only [seqP, lstP, lstS, hf]
  have b2 : 2 ≤ sizeLine := by decide
  simp only [endW, wSl, oSo, slR, sSeq, sIf, sAsg, sRet, sRetN, sNext, sDrop, gNm, gIx, gTp, gCn, gNl, tValP, tTru, truP, tNotP, tAndP, tOrP, wOp, wVar, wC, wCa, wCons, wNil, wTup, wLst, wIf, wCall, wNeg, startP, List.map_cons, List.map_nil, List.cons_append, List.nil_append, List.getElem?_cons_zero, List.getElem?_cons_succ, List.length_cons, List.length_nil, Nat.reduceAdd, Nat.reduceSub, List.replicate_succ, List.replicate_zero, List.set_cons_zero, List.set_cons_succ, Option.some.injEq, exists_eq_left', PV.bl.injEq, PV.int.injEq, PV.str.injEq, PV.ref.injEq, PV.tup.injEq, PV.lst.injEq, Cell.lst.injEq, List.cons.injEq, and_true, true_and, exists_and_left, r_add, r_adds, r_addt, r_addl, r_sub, r_mul, r_fdiv, r_mod, r_pow, r_lt, r_le, r_gt, r_ge, r_eqi, r_nei, r_eqs, r_nes, r_inti, r_intb, r_ixr, r_ixl, r_ixt, r_newt, r_newf, atI_0, atI_1, atI_2, decide_eq_true_eq]
  refine r_len hs ?_
  simp only [r_gt]
  refine ⟨_, rfl, ?_⟩
  have hps : (Trm.ps as).length = as.length := by rw [Trm.ps_map, List.length_map]
  rcases h with ⟨rfl, h⟩ | ⟨h0, h⟩
  · have hz : z.length = pre.length + post.length := by rw [← len_list, h]; simp
    rw [if_neg (by simp [Trm.ps])]
    refine ⟨_, _, rfl, hs, b2, ?_⟩
    rw [show z.length - post.length = pre.length by omega] at q
    exact q
  · have hz : z.length = pre.length + (post.length + 1) := by rw [← len_list, h]; simp
    have h1 : 1 ≤ as.length := by cases as with | nil => exact absurd rfl h0 | cons _ _ => simp
    rw [if_pos (by simp [hps]; omega)]
    refine ⟨hl, ?_⟩
    rw [cut_one h]
    refine c_must hlv ?_
    refine ⟨_, _, rfl, rfl, _, _, rfl, hs, b2, ?_⟩
    rw [show ((z.length - post.length : Nat) : Int) = ((pre.length : Nat) : Int) + 1 by omega] at q
    exact q
/-- where the reading of parts stands -/
def FromS (d lv : Nat) : Prop := ∀ (z : Str) (pre post : List Nat) (t : Trm) (deep : Int) (st : Sto) (Q : PV → Sto → Prop), z.cps.toList = pre ++ tx t ++ post → TOk d t → Delim post → z.length ≤ sizeLine → deep + d < 100 →
  (∀ st', Gr [] st st' → Q (.tup [t.p, .int ((z.length - post.length : Nat) : Int)]) st') → Sem prog lv F_term_from [.str z, .int (pre.length : Nat), .int deep] st Q
def LInv (z s : Str) (post : List Nat) (as : List Trm) (deep : Int) (f : Nat) (e1 e4 : Option PV) (st : Sto) (m : Nat) (env : Envp) (st' : Sto) : Prop := ∃ (as1 as2 : List Trm) (pre' : List Nat) (sep : Nat) (e7' : Option PV), as = as1 ++ as2 ∧ m = as2.length ∧ (sep = 40 ∧ as1 = [] ∨ sep = 44 ∧ as1 ≠ []) ∧ z.cps.toList = pre' ++ txL sep as2 ++ post ∧ Gr [f] st st' ∧ st'[f]? = some (.lst (.str s :: Trm.ps as1)) ∧
    env = [some (.str z), e1, some (.int deep), some (.int (pre'.length : Nat)), e4, some (.ref f), some (.str ⟨#[sep]⟩), e7']
theorem loop_ok {d : Nat} (IH : FromS d lv) {z s : Str} {pre post : List Nat} {as : List Trm} {deep : Int} {f : Nat} {e1 e4 e7 : Option PV} {D : EndsP} (hl : z.length ≤ sizeLine) (hd : deep + 1 + d < 100) (hp : Delim post) (h3 : as.length ≤ 3) (ha : ∀ a ∈ as, TOk d a)
    (hz : z.cps.toList = pre ++ txL 40 as ++ post) (hf : st[f]? = some (.lst [.str s]))
    (k : ∀ (st' : Sto) (pre' : List Nat) e6 e7', Gr [f] st st' → st'[f]? = some (.lst (.str s :: Trm.ps as)) → (as = [] ∧ z.cps.toList = pre' ++ post ∨ as ≠ [] ∧ z.cps.toList = pre' ++ 41 :: post) → D.nx [some (.str z), e1, some (.int deep), some (.int (pre'.length : Nat)), e4, some (.ref f), e6, e7'] st') :
    loopW (Sem prog lv F_term_from) D [some (.str z), e1, some (.int deep), some (.int (pre.length : Nat)), e4, some (.ref f), some (.str "("), e7] st := by
  refine ⟨LInv z s post as deep f e1 e4 st, ⟨as.length, [], as, pre, 40, e7, rfl, rfl, .inl ⟨rfl, rfl⟩, hz, .refl, hf, rfl⟩, ?_⟩
  rintro m env st' ⟨as1, as2, pre', sep, e7', rfl, rfl, hsep, hz', g, hf', rfl⟩
  have hs : seqP st' (.ref f) = some (.str s :: Trm.ps as1) := by simp only [seqP, lstP, lstS, hf']
  have hps : (Trm.ps as1).length = as1.length := by rw [Trm.ps_map, List.length_map]
  have hb : (1000 : Nat) ≤ sizeLine := by decide
  simp only [wSl, oSo, slR, sSeq, sIf, sAsg, sRet, sRetN, sNext, sDrop, gNm, gIx, gTp, gCn, gNl, tValP, tTru, truP, tNotP, tAndP, tOrP, wOp, wVar, wC, wCa, wCons, wNil, wTup, wLst, wIf, wCall, wNeg, startP, List.map_cons, List.map_nil, List.cons_append, List.nil_append, List.getElem?_cons_zero, List.getElem?_cons_succ, List.length_cons, List.length_nil, Nat.reduceAdd, Nat.reduceSub, List.replicate_succ, List.replicate_zero, List.set_cons_zero, List.set_cons_succ, Option.some.injEq, exists_eq_left', PV.bl.injEq, PV.int.injEq, PV.str.injEq, PV.ref.injEq, PV.tup.injEq, PV.lst.injEq, Cell.lst.injEq, List.cons.injEq, and_true, true_and, exists_and_left, r_add, r_adds, r_addt, r_addl, r_sub, r_mul, r_fdiv, r_mod, r_pow, r_lt, r_le, r_gt, r_ge, r_eqi, r_nei, r_eqs, r_nes, r_inti, r_intb, r_ixr, r_ixl, r_ixt, r_newt, r_newf, atI_0, atI_1, atI_2, decide_eq_true_eq]
  refine ⟨hl, ?_⟩
  cases as2 with
  | nil =>
    have hne : (cutS z (some ((pre'.length : Nat) : Int)) (some (((pre'.length : Nat) : Int) + 1)) == (⟨#[sep]⟩ : Str)) = false := by
      have hc : ∀ c : Nat, c ≠ sep → ((⟨#[c]⟩ : Str) == ⟨#[sep]⟩) = false := fun c h => by
        rw [beq_eq_false_iff_ne]; intro e; injection e with e; simp at e; exact h e
      rcases hsep with ⟨rfl, rfl⟩ | ⟨rfl, h0⟩
      · simp only [txL, if_true, List.append_nil] at hz'
        rcases hp with rfl | ⟨c, r, rfl, hc'⟩
        · rw [cut_end (by simpa using hz')]; decide
        · rw [cut_one hz']; exact hc c (by omega)
      · simp only [txL] at hz'
        rw [cut_one (c := 41) (rest := post) (by simpa using hz')]; exact hc 41 (by decide)
    rw [hne, if_neg Bool.false_ne_true, if_neg Bool.false_ne_true]
    rw [List.append_nil] at *
    refine k _ _ _ _ g hf' ?_
    rcases hsep with ⟨rfl, rfl⟩ | ⟨rfl, h0⟩
    · exact .inl ⟨rfl, by simpa [txL] using hz'⟩
    · exact .inr ⟨h0, by simpa [txL] using hz'⟩
  | cons a as2 =>
    simp only [List.length_append, List.length_cons] at h3
    rw [cut_one (rest := tx a ++ txL 44 as2 ++ post) (c := sep) (by rw [hz']; simp [txL])]
    rw [if_pos (by simp)]
    refine r_len hs ?_
    simp only [r_le]
    refine ⟨_, rfl, ?_⟩
    rw [if_pos (by simp [hps]; omega)]
    refine ⟨fun env st2 => LInv z s post (as1 ++ a :: as2) deep f e1 e4 st as2.length env st2, fun env st2 h => ⟨as2.length, by simp, h⟩, ?_⟩
    simp only [loopB, wM, sSeq, sIf, sAsg, sRet, sRetN, sNext, sDrop, gNm, gIx, gTp, gCn, gNl, tValP, tTru, truP, tNotP, tAndP, tOrP, wOp, wVar, wC, wCa, wCons, wNil, wTup, wLst, wIf, wCall, wNeg, startP, List.map_cons, List.map_nil, List.cons_append, List.nil_append, List.getElem?_cons_zero, List.getElem?_cons_succ, List.length_cons, List.length_nil, Nat.reduceAdd, Nat.reduceSub, List.replicate_succ, List.replicate_zero, List.set_cons_zero, List.set_cons_succ, Option.some.injEq, exists_eq_left', PV.bl.injEq, PV.int.injEq, PV.str.injEq, PV.ref.injEq, PV.tup.injEq, PV.lst.injEq, Cell.lst.injEq, List.cons.injEq, and_true, true_and, exists_and_left, r_add, r_adds, r_addt, r_addl, r_sub, r_mul, r_fdiv, r_mod, r_pow, r_lt, r_le, r_gt, r_ge, r_eqi, r_nei, r_eqs, r_nes, r_inti, r_intb, r_ixr, r_ixl, r_ixt, r_newt, r_newf, atI_0, atI_1, atI_2, decide_eq_true_eq]
    have e3 : (((pre'.length : Nat) : Int) + 1) = (((pre' ++ [sep]).length : Nat) : Int) := by simp
    rw [e3]
    refine IH z (pre' ++ [sep]) (txL 44 as2 ++ post) a _ _ _ (by rw [hz']; simp [txL]) (ha a (by simp)) txL_delim hl (by omega) fun st2 g2 => ?_
    have hf2 := g2.2 f _ (by simp) hf'
    refine ⟨_, rfl, rfl, _, _, rfl, _, _, rfl, rfl, ?_⟩
    have hzl : z.length = pre'.length + (1 + (tx a).length + (txL 44 as2).length) + post.length := by rw [← len_list, hz']; simp [txL]; omega
    refine ⟨by simp only [tyM, hf2], f, _, _, rfl, rfl, hf2, by simp [hps]; omega, ?_⟩
    refine ⟨as1 ++ [a], as2, pre' ++ [sep] ++ tx a, 44, some a.p, by simp, rfl, .inr ⟨rfl, by simp⟩, by rw [hz']; simp [txL], (g.trans g2.nil).trans (Gr.set (by simp)), ?_, ?_⟩
    · rw [set_at hf2, Trm.ps_map, Trm.ps_map, List.map_append]; rfl
    · have : z.length - (txL 44 as2 ++ post).length = (pre' ++ [sep] ++ tx a).length := by
        rw [hzl]; simp; omega
      rw [this]; rfl
/-- a term read at its place -/
theorem c_from : ∀ (d lv : Nat), d + 4 ≤ lv → FromS d lv
  | d, 0, h => by omega
  | d, lv + 1, hlv => by
    intro z pre post t deep st Q hz ht hp hl hd q
    refine go_term_from ?_
    have b2 : 2 ≤ sizeLine := by decide
    have start : ∀ {s : Str} {rest : List Nat} {w : WS}, z.cps.toList = pre ++ s.cps.toList ++ rest → (∀ c ∈ s.cps.toList, isLet c) → Stop rest → w { nx := fun x st' => Q PV.non st', rt := Q } [some (.str z), some (.int (pre.length : Nat)), some (.int deep), some (.int ((pre.length + s.cps.toList.length : Nat) : Int)), some (.str s), none, none, none] st →
        (sSeq (sDrop (wCall 1 (Sem prog lv F_must) (wCons (wOp ltR (wVar 2) (wC (.int 100))) wNil)))
  (sSeq (sAsg (wCall 2 (Sem prog lv F_word_end) (wCons (wVar 0) (wCons (wVar 1) wNil))) (gNm 3))
  (sSeq (sAsg (wSl false (wVar 0) (oSo (wVar 1)) (oSo (wVar 3))) (gNm 4)) w))) { nx := fun x st' => Q PV.non st', rt := Q } [some (.str z), some (.int (pre.length : Nat)), some (.int deep), none, none, none, none, none] st := by
      intro s rest w hz hs hr hw
      simp only [wSl, oSo, slR, sSeq, sIf, sAsg, sRet, sRetN, sNext, sDrop, gNm, gIx, gTp, gCn, gNl, tValP, tTru, truP, tNotP, tAndP, tOrP, wOp, wVar, wC, wCa, wCons, wNil, wTup, wLst, wIf, wCall, wNeg, startP, List.map_cons, List.map_nil, List.cons_append, List.nil_append, List.getElem?_cons_zero, List.getElem?_cons_succ, List.length_cons, List.length_nil, Nat.reduceAdd, Nat.reduceSub, List.replicate_succ, List.replicate_zero, List.set_cons_zero, List.set_cons_succ, Option.some.injEq, exists_eq_left', PV.bl.injEq, PV.int.injEq, PV.str.injEq, PV.ref.injEq, PV.tup.injEq, PV.lst.injEq, Cell.lst.injEq, List.cons.injEq, and_true, true_and, exists_and_left, r_add, r_adds, r_addt, r_addl, r_sub, r_mul, r_fdiv, r_mod, r_pow, r_lt, r_le, r_gt, r_ge, r_eqi, r_nei, r_eqs, r_nes, r_inti, r_intb, r_ixr, r_ixl, r_ixt, r_newt, r_newf, atI_0, atI_1, atI_2, decide_eq_true_eq]
      rw [decide_eq_true (show deep < 100 by omega)]
      refine c_must (by omega) ?_
      refine c_wend (by omega) hz hl hs hr ?_
      refine ⟨_, rfl, hl, ?_⟩
      rw [cut_mid hz, word_str]
      exact hw
    cases t with
    | u s =>
      have hs := TOk.u.mp ht
      refine start (s := s) (rest := post) hz (hs.let fun _ => .inr) hp.stop ?_
      have e : ((z.length - post.length : Nat) : Int) = ((pre.length + s.cps.toList.length : Nat) : Int) := by
        have : z.length = pre.length + s.cps.toList.length + post.length := by rw [← len_list, hz]; simp [tx]; omega
        omega
      have q' := q st .refl
      rw [e] at q'
      simp only [sSeq, sIf, sAsg, sRet, sRetN, sNext, sDrop, gNm, gIx, gTp, gCn, gNl, tValP, tTru, truP, tNotP, tAndP, tOrP, wOp, wVar, wC, wCa, wCons, wNil, wTup, wLst, wIf, wCall, wNeg, startP, List.map_cons, List.map_nil, List.cons_append, List.nil_append, List.getElem?_cons_zero, List.getElem?_cons_succ, List.length_cons, List.length_nil, Nat.reduceAdd, Nat.reduceSub, List.replicate_succ, List.replicate_zero, List.set_cons_zero, List.set_cons_succ, Option.some.injEq, exists_eq_left', PV.bl.injEq, PV.int.injEq, PV.str.injEq, PV.ref.injEq, PV.tup.injEq, PV.lst.injEq, Cell.lst.injEq, List.cons.injEq, and_true, true_and, exists_and_left, r_add, r_adds, r_addt, r_addl, r_sub, r_mul, r_fdiv, r_mod, r_pow, r_lt, r_le, r_gt, r_ge, r_eqi, r_nei, r_eqs, r_nes, r_inti, r_intb, r_ixr, r_ixl, r_ixt, r_newt, r_newf, atI_0, atI_1, atI_2, decide_eq_true_eq]
      refine c_unk (by omega) (b := true) (by simpa using hs) ?_
      refine ⟨_, rfl, ?_⟩
      rw [if_pos rfl]
      exact ⟨b2, q'⟩
    | f s as =>
      cases d with
      | zero => exact ht.elim
      | succ d =>
      have hz2 : z.cps.toList = pre ++ s.cps.toList ++ (txL 40 as ++ post) := by rw [hz]; simp [tx]
      refine start (s := s) hz2 (ht.1.let fun _ => .inl) (txL_stop (.inl rfl) hp) ?_
      show (sSeq _ (sSeq _ (sSeq _ (sSeq _ (sSeq (loopW (Sem prog lv F_term_from)) (endW (Sem prog lv F_must))))))) _ _ _
      have fin : ∀ (st' : Sto) (pre' : List Nat) e6 e7', Gr [st.length] (st ++ [.lst [.str s]]) st' → st'[st.length]? = some (.lst (.str s :: Trm.ps as)) → (as = [] ∧ z.cps.toList = pre' ++ post ∨ as ≠ [] ∧ z.cps.toList = pre' ++ 41 :: post) →
          endW (Sem prog lv F_must) { nx := fun x st' => Q PV.non st', rt := Q } [some (.str z), some (.int (pre.length : Nat)), some (.int deep), some (.int (pre'.length : Nat)), some (.str s), some (.ref st.length), e6, e7'] st' := fun st' pre' e6 e7' g hf h =>
        end_ok (by omega) hf hl h (q st' ((Gr.new.trans g).drop (Nat.le_refl _)))
      have hz3 : z.cps.toList = (pre ++ s.cps.toList) ++ txL 40 as ++ post := by rw [hz2]; simp
      have hlen : ((pre.length + s.cps.toList.length : Nat) : Int) = (((pre ++ s.cps.toList).length : Nat) : Int) := by simp
      have lp := loop_ok (lv := lv) (st := st ++ [.lst [.str s]]) (f := st.length) (s := s) (e1 := some (.int (pre.length : Nat))) (e4 := some (.str s)) (e7 := none) (D := { nx := endW (Sem prog lv F_must) { nx := fun x st' => Q PV.non st', rt := Q }, rt := Q }) (c_from d lv (by omega)) hl (deep := deep) (by omega) hp ht.2.1 ht.2.2 hz3 new_at fin
      generalize loopW (Sem prog lv F_term_from) = LW at lp ⊢
      generalize endW (Sem prog lv F_must) = EW at lp fin ⊢
      simp only [sSeq, sIf, sAsg, sRet, sRetN, sNext, sDrop, gNm, gIx, gTp, gCn, gNl, tValP, tTru, truP, tNotP, tAndP, tOrP, wOp, wVar, wC, wCa, wCons, wNil, wTup, wLst, wIf, wCall, wNeg, startP, List.map_cons, List.map_nil, List.cons_append, List.nil_append, List.getElem?_cons_zero, List.getElem?_cons_succ, List.length_cons, List.length_nil, Nat.reduceAdd, Nat.reduceSub, List.replicate_succ, List.replicate_zero, List.set_cons_zero, List.set_cons_succ, Option.some.injEq, exists_eq_left', PV.bl.injEq, PV.int.injEq, PV.str.injEq, PV.ref.injEq, PV.tup.injEq, PV.lst.injEq, Cell.lst.injEq, List.cons.injEq, and_true, true_and, exists_and_left, r_add, r_adds, r_addt, r_addl, r_sub, r_mul, r_fdiv, r_mod, r_pow, r_lt, r_le, r_gt, r_ge, r_eqi, r_nei, r_eqs, r_nes, r_inti, r_intb, r_ixr, r_ixl, r_ixt, r_newt, r_newf, atI_0, atI_1, atI_2, decide_eq_true_eq]
      refine c_unk (by omega) (b := false) (by simpa using ht.1) ?_
      refine ⟨_, rfl, ?_⟩
      rw [if_neg Bool.false_ne_true]
      refine c_nam (by omega) ht.1 ?_
      refine c_must (by omega) ?_
      refine ⟨by decide, ?_⟩
      rw [hlen]
      exact lp
/-- a text read -/
theorem c_read {d : Nat} {t : Trm} (ht : TOk d t) (hd : d < 100) (hlv : d + 5 ≤ lv) (hl : (tx t).length ≤ 1000000) (q : ∀ st', Gr [] st st' → Q t.p st') : Sem prog lv F_read_term [.str (txS t)] st Q := by
  obtain ⟨lv, rfl⟩ : ∃ j, lv = j + 1 := ⟨lv - 1, by omega⟩
  refine go_read_term ?_
  have hlen : (txS t).length = (tx t).length := by simp [txS, Str.length]
  have big : 1000000 ≤ sizeLine := by decide
  simp only [w_read_term, wIsi, tyP, isiB, sSeq, sIf, sAsg, sRet, sRetN, sNext, sDrop, gNm, gIx, gTp, gCn, gNl, tValP, tTru, truP, tNotP, tAndP, tOrP, wOp, wVar, wC, wCa, wCons, wNil, wTup, wLst, wIf, wCall, wNeg, startP, List.map_cons, List.map_nil, List.cons_append, List.nil_append, List.getElem?_cons_zero, List.getElem?_cons_succ, List.length_cons, List.length_nil, Nat.reduceAdd, Nat.reduceSub, List.replicate_succ, List.replicate_zero, List.set_cons_zero, List.set_cons_succ, Option.some.injEq, exists_eq_left', PV.bl.injEq, PV.int.injEq, PV.str.injEq, PV.ref.injEq, PV.tup.injEq, PV.lst.injEq, Cell.lst.injEq, List.cons.injEq, and_true, true_and, exists_and_left, r_add, r_adds, r_addt, r_addl, r_sub, r_mul, r_fdiv, r_mod, r_pow, r_lt, r_le, r_gt, r_ge, r_eqi, r_nei, r_eqs, r_nes, r_inti, r_intb, r_ixr, r_ixl, r_ixt, r_newt, r_newf, atI_0, atI_1, atI_2, decide_eq_true_eq]
  refine c_must (by omega) ?_
  refine c_from d lv (by omega) (txS t) [] [] t 0 _ _ (by simp [txS]) ht (.inl rfl) (by omega) (by omega) fun st' g => ?_
  refine ⟨_, rfl, rfl, _, _, rfl, _, _, rfl, rfl, ?_⟩
  rw [List.length_nil, Nat.sub_zero]
  simp only [r_lens, r_eqi]
  refine ⟨by omega, ?_⟩
  rw [show (((txS t).length : Int) == ((txS t).length : Int)) = true by simp]
  exact c_must (by omega) (q st' g)
end
end K06

namespace K06
open PySem PySem.Spec L2 Pv
section
variable {lv : Nat} {st : Sto} {Q : PV → Sto → Prop}
theorem lc_txt {gd : Sto → Prop} {i : Nat} {te : WE} {env : Envp} : ∀ (as : List Trm) (acc : List PV) (kk : List PV → Sto → Prop), gd st → (∀ a ∈ as, ∀ Q, Q (.str (txS a)) st → te (env.set i (some a.p)) st Q) → acc.length + as.length ≤ sizeLine →
    kk (acc ++ pStrs (as.map txS)) st → lcGo gd (gNm i) tYesP te env (Trm.ps as) acc st kk
  | [], acc, kk, hg, _, _, k => ⟨hg, by simpa [pStrs] using k⟩
  | a :: as, acc, kk, hg, h, hl, k => by
    refine ⟨hg, ?_⟩
    simp only [gNm, tYesP, if_true]
    simp only [List.length_cons] at hl
    refine h a List.mem_cons_self _ ⟨by omega, ?_⟩
    refine lc_txt as _ kk hg (fun b m => h b (List.mem_cons_of_mem _ m)) (by simp; omega) ?_
    simpa [pStrs] using k
theorem join_tx : ∀ (as : List Trm) (a : Trm), (Str.join "," ((a :: as).map txS)).cps.toList ++ [41] = tx a ++ txL 44 as
  | [], a => by simp [Str.join, txS, txL]
  | b :: as, a => by
    have e : Str.join "," ((a :: b :: as).map txS) = txS a ++ "," ++ Str.join "," ((b :: as).map txS) := rfl
    rw [e, cps_app, cps_app, List.append_assoc, join_tx as b]
    have : (Str.ofString ",").cps.toList = [44] := by decide +kernel
    simp [txS, txL, this]
theorem sum_tx : ∀ (sep : Nat) (as : List Trm), ((as.map txS).map (·.length)).sum + as.length ≤ (txL sep as).length
  | sep, [] => by simp
  | sep, a :: as => by
    have := sum_tx 44 as
    simp only [List.map_cons, List.sum_cons, List.length_cons, txL, List.length_append, txS, Str.length, List.size_toArray] at this ⊢
    omega
theorem eq_nil {us : List Str} (h : ∀ s ∈ us, PyData.strOk s = true) (q : Q (.bl us.isEmpty) st) : eqA (.lst (pStrs us)) (.lst []) st Q := by
  show eqR (.lst (pStrs us)) (.lst []) st Q
  obtain ⟨h1, h2⟩ := strs_data us
  refine ⟨.list (us.map PyData.str), .list [], by simp only [datS, isD, h1, if_true, dat, h2], rfl, ?_, rfl, ?_⟩
  · unfold SeqAt.shaped
    have e1 : PyData.canLay0 (.list (us.map PyData.str)) = true := by
      simp only [PyData.canLay0]; exact canLayAll_map PyData.str us h
    have e2 : PyData.depth (.list (us.map PyData.str)) ≤ 64 := by
      have := depthAll_map PyData.str 0 us fun s m => Nat.le_refl _
      simp only [PyData.depth]; omega
    rw [e1, decide_eq_true e2]; rfl
  · have : PyData.eqv (.list (us.map PyData.str)) (.list []) = us.isEmpty := by
      cases us <;> simp [PyData.eqv, PyData.eqvAll]
    rw [this]; exact q
theorem c_within (hlv : 1 ≤ lv) {s : Str} {as : List Trm} (k : Q (.tup (Trm.ps as)) st) : Sem prog lv F_within [(Trm.f s as).p] st Q := by
  obtain ⟨lv, rfl⟩ : ∃ j, lv = j + 1 := ⟨lv - 1, by omega⟩
  refine go_within ?_
  simp only [w_within, wIsi, Trm.p, tyP, isiB, wSl, oNo, oSo, slR, sSeq, sIf, sAsg, sRet, sRetN, sNext, sDrop, gNm, gIx, gTp, gCn, gNl, tValP, tTru, truP, tNotP, tAndP, tOrP, wOp, wVar, wC, wCa, wCons, wNil, wTup, wLst, wIf, wCall, wNeg, startP, List.map_cons, List.map_nil, List.cons_append, List.nil_append, List.getElem?_cons_zero, List.getElem?_cons_succ, List.length_cons, List.length_nil, Nat.reduceAdd, Nat.reduceSub, List.replicate_succ, List.replicate_zero, List.set_cons_zero, List.set_cons_succ, Option.some.injEq, exists_eq_left', PV.bl.injEq, PV.int.injEq, PV.str.injEq, PV.ref.injEq, PV.tup.injEq, PV.lst.injEq, Cell.lst.injEq, List.cons.injEq, and_true, true_and, exists_and_left, r_add, r_adds, r_addt, r_addl, r_sub, r_mul, r_fdiv, r_mod, r_pow, r_lt, r_le, r_gt, r_ge, r_eqi, r_nei, r_eqs, r_nes, r_inti, r_intb, r_ixr, r_ixl, r_ixt, r_newt, r_newf, atI_0, atI_1, atI_2, decide_eq_true_eq]
  have e : cutL (PV.str s :: Trm.ps as) (some 1) none = Trm.ps as := cutL_lo _ 1
  rw [e]
  exact k
theorem tx_arg {s : Str} {as : List Trm} {a : Trm} (m : a ∈ as) : (tx a).length + 1 ≤ (txL 40 as).length := by
  have : ∀ (sep : Nat) (as : List Trm), a ∈ as → (tx a).length + 1 ≤ (txL sep as).length := by
    intro sep as
    induction as generalizing sep with
    | nil => intro m; cases m
    | cons b as ih =>
      intro m
      simp only [txL, List.length_cons, List.length_append]
      rcases List.mem_cons.mp m with rfl | m
      · omega
      · have := ih 44 m; omega
  exact this 40 as m
theorem joined {s a : Str} {as : List Str} (h : (a ++ "(" ++ Str.join "," as ++ ")").cps.toList = s.cps.toList) : a ++ "(" ++ Str.join "," as ++ ")" = s := str_ext h
theorem txS_f {s : Str} {a : Trm} {as : List Trm} : s ++ "(" ++ Str.join "," ((a :: as).map txS) ++ ")" = txS (.f s (a :: as)) := by
  apply str_ext
  rw [cps_app, cps_app, cps_app]
  have e1 : (Str.ofString "(").cps.toList = [40] := by decide +kernel
  have e2 : (Str.ofString ")").cps.toList = [41] := by decide +kernel
  rw [e1, e2, List.append_assoc, join_tx]
  simp [txS, tx, txL]
theorem txS_f2 {s : Str} {a : Trm} {as : List Trm} : s ++ (Str.ofString "(" ++ Str.join "," ((a :: as).map txS) ++ ")") = txS (.f s (a :: as)) := by
  rw [← txS_f]
  apply str_ext
  simp only [cps_app, List.append_assoc]
theorem txS_0 {s : Str} : txS (.f s []) = s := by apply str_ext; simp [txS, tx, txL]
theorem txS_u {s : Str} : txS (.u s) = s := by apply str_ext; simp [txS, tx]
theorem join_len {s : Str} {as : List Trm} (h : (tx (.f s as)).length ≤ 1000000) : ((as.map txS).map (·.length)).sum + as.length ≤ 1000000 ∧ s.length ≤ 1000000 := by
  have := sum_tx 40 as
  simp only [tx, List.length_append, len_list] at h
  omega
theorem join_le {as : List Trm} (h0 : ∀ a ∈ as, PyData.strOk (txS a) = true) (h : ((as.map txS).map (·.length)).sum + as.length ≤ 1000000) : (Str.join "," (as.map txS)).length ≤ 2000000 := by
  have := (join_all (Str.ofString ",") (by decide +kernel) (as.map txS) (fun x m => by obtain ⟨a, ma, rfl⟩ := List.mem_map.mp m; exact h0 a ma)).2.2
  have e : (Str.ofString ",").length = 1 := by decide +kernel
  rw [e, List.length_map] at this
  omega
theorem mul_b {z : Str} {b : Bool} (q : Q (.str (if b = true then z else Str.empty)) st) : mulR (.str z) (.int (if b = true then 1 else 0)) st Q := by
  cases b with
  | false => exact ⟨⟨by decide, fun h => absurd (by decide) h, fun h => absurd (by decide) h⟩, q⟩
  | true => exact ⟨⟨by decide, fun _ h => by simp at h, fun _ h => by simp at h⟩, q⟩
theorem c_show : ∀ (d lv : Nat) {t : Trm} {Q : PV → Sto → Prop}, d + 2 ≤ lv → TOk d t → (tx t).length ≤ 1000000 → Q (.str (txS t)) st → Sem prog lv F_show_term [t.p] st Q
  | d, 0, _, _, h, _, _, _ => by omega
  | d, lv + 1, .u s, Q, hlv, ht, hl, q => by
    refine go_show_term ?_
    simp only [w_show_term, wIsi, Trm.p, tyP, isiB, sSeq, sIf, sAsg, sRet, sRetN, sNext, sDrop, gNm, gIx, gTp, gCn, gNl, tValP, tTru, truP, tNotP, tAndP, tOrP, wOp, wVar, wC, wCa, wCons, wNil, wTup, wLst, wIf, wCall, wNeg, startP, List.map_cons, List.map_nil, List.cons_append, List.nil_append, List.getElem?_cons_zero, List.getElem?_cons_succ, List.length_cons, List.length_nil, Nat.reduceAdd, Nat.reduceSub, List.replicate_succ, List.replicate_zero, List.set_cons_zero, List.set_cons_succ, Option.some.injEq, exists_eq_left', PV.bl.injEq, PV.int.injEq, PV.str.injEq, PV.ref.injEq, PV.tup.injEq, PV.lst.injEq, Cell.lst.injEq, List.cons.injEq, and_true, true_and, exists_and_left, r_add, r_adds, r_addt, r_addl, r_sub, r_mul, r_fdiv, r_mod, r_pow, r_lt, r_le, r_gt, r_ge, r_eqi, r_nei, r_eqs, r_nes, r_inti, r_intb, r_ixr, r_ixl, r_ixt, r_newt, r_newf, atI_0, atI_1, atI_2, decide_eq_true_eq]
    rw [txS_u] at q
    exact q
  | 0, lv + 1, .f _ _, Q, hlv, ht, hl, q => ht.elim
  | d + 1, lv + 1, .f s as, Q, hlv, ht, hl, q => by
    refine go_show_term ?_
    have big : 10000000 ≤ sizeLine := by decide
    have hp : (Trm.f s as).p = .tup (.str s :: Trm.ps as) := rfl
    obtain ⟨j1, j2⟩ := join_len hl
    have hok : ∀ a ∈ as, PyData.strOk (txS a) = true := fun a m => txS_ok (ht.2.2 a m)
    have j3 := join_le hok j1
    simp only [w_show_term, wIsi, tyP, isiB, wLc, iVal, wipeP, wM, hp, sSeq, sIf, sAsg, sRet, sRetN, sNext, sDrop, gNm, gIx, gTp, gCn, gNl, tValP, tTru, truP, tNotP, tAndP, tOrP, wOp, wVar, wC, wCa, wCons, wNil, wTup, wLst, wIf, wCall, wNeg, startP, List.map_cons, List.map_nil, List.cons_append, List.nil_append, List.getElem?_cons_zero, List.getElem?_cons_succ, List.length_cons, List.length_nil, Nat.reduceAdd, Nat.reduceSub, List.replicate_succ, List.replicate_zero, List.set_cons_zero, List.set_cons_succ, Option.some.injEq, exists_eq_left', PV.bl.injEq, PV.int.injEq, PV.str.injEq, PV.ref.injEq, PV.tup.injEq, PV.lst.injEq, Cell.lst.injEq, List.cons.injEq, and_true, true_and, exists_and_left, r_add, r_adds, r_addt, r_addl, r_sub, r_mul, r_fdiv, r_mod, r_pow, r_lt, r_le, r_gt, r_ge, r_eqi, r_nei, r_eqs, r_nes, r_inti, r_intb, r_ixr, r_ixl, r_ixt, r_newt, r_newf, atI_0, atI_1, atI_2, decide_eq_true_eq]
    refine c_within (by omega) ⟨_, rfl, ?_⟩
    refine lc_txt as [] _ trivial (fun a m Q' q' => ?_) (by have := ht.2.1; simp; omega) ?_
    · simp only [sSeq, sIf, sAsg, sRet, sRetN, sNext, sDrop, gNm, gIx, gTp, gCn, gNl, tValP, tTru, truP, tNotP, tAndP, tOrP, wOp, wVar, wC, wCa, wCons, wNil, wTup, wLst, wIf, wCall, wNeg, startP, List.map_cons, List.map_nil, List.cons_append, List.nil_append, List.getElem?_cons_zero, List.getElem?_cons_succ, List.length_cons, List.length_nil, Nat.reduceAdd, Nat.reduceSub, List.replicate_succ, List.replicate_zero, List.set_cons_zero, List.set_cons_succ, Option.some.injEq, exists_eq_left', PV.bl.injEq, PV.int.injEq, PV.str.injEq, PV.ref.injEq, PV.tup.injEq, PV.lst.injEq, Cell.lst.injEq, List.cons.injEq, and_true, true_and, exists_and_left, r_add, r_adds, r_addt, r_addl, r_sub, r_mul, r_fdiv, r_mod, r_pow, r_lt, r_le, r_gt, r_ge, r_eqi, r_nei, r_eqs, r_nes, r_inti, r_intb, r_ixr, r_ixl, r_ixt, r_newt, r_newf, atI_0, atI_1, atI_2, decide_eq_true_eq]
      have := tx_arg (s := s) m
      simp only [tx, List.length_append] at hl
      exact c_show d lv (by omega) (ht.2.2 a m) (by omega) q'
    · rw [List.nil_append]
      refine ⟨Nat.zero_le _, eq_nil (fun s m => by obtain ⟨a, ma, rfl⟩ := List.mem_map.mp m; exact hok a ma) ?_⟩
      refine ⟨_, rfl, ?_⟩
      cases as with
      | nil =>
        rw [txS_0] at q
        simp only [List.map_nil, List.isEmpty_nil, if_true]
        exact q
      | cons a as =>
        simp only [List.map_cons, List.isEmpty_cons, Bool.false_eq_true, if_false]
        rw [← List.map_cons]
        have e1 : (Str.ofString "(").length = 1 := by decide +kernel
        have e2 : (Str.ofString ")").length = 1 := by decide +kernel
        have e3 : (Str.ofString ",").length = 1 := by decide +kernel
        refine ⟨by omega, rfl, _, _, (a :: as).map txS, rfl, rfl, rfl, ?_, ?_⟩
        · rw [e3, List.length_map]; omega
        · rw [txt_join]
          refine r_adds.mpr ⟨by rw [len_app]; omega, ?_⟩
          refine r_adds.mpr ⟨by rw [len_app, len_app]; omega, ?_⟩
          rw [txS_f]; exact q
theorem c_text : ∀ (d lv : Nat) {t : Trm} {Q : PV → Sto → Prop}, d + 2 ≤ lv → TOk d t → (tx t).length ≤ 1000000 → Q (.str (txS t)) st → Sem prog lv F_law_text [t.p] st Q
  | d, 0, _, _, h, _, _, _ => by omega
  | d, lv + 1, .u s, Q, hlv, ht, hl, q => by
    refine go_law_text ?_
    simp only [w_law_text, wIsi, Trm.p, tyP, isiB, sSeq, sIf, sAsg, sRet, sRetN, sNext, sDrop, gNm, gIx, gTp, gCn, gNl, tValP, tTru, truP, tNotP, tAndP, tOrP, wOp, wVar, wC, wCa, wCons, wNil, wTup, wLst, wIf, wCall, wNeg, startP, List.map_cons, List.map_nil, List.cons_append, List.nil_append, List.getElem?_cons_zero, List.getElem?_cons_succ, List.length_cons, List.length_nil, Nat.reduceAdd, Nat.reduceSub, List.replicate_succ, List.replicate_zero, List.set_cons_zero, List.set_cons_succ, Option.some.injEq, exists_eq_left', PV.bl.injEq, PV.int.injEq, PV.str.injEq, PV.ref.injEq, PV.tup.injEq, PV.lst.injEq, Cell.lst.injEq, List.cons.injEq, and_true, true_and, exists_and_left, r_add, r_adds, r_addt, r_addl, r_sub, r_mul, r_fdiv, r_mod, r_pow, r_lt, r_le, r_gt, r_ge, r_eqi, r_nei, r_eqs, r_nes, r_inti, r_intb, r_ixr, r_ixl, r_ixt, r_newt, r_newf, atI_0, atI_1, atI_2, decide_eq_true_eq]
    rw [txS_u] at q
    exact q
  | 0, lv + 1, .f _ _, Q, hlv, ht, hl, q => ht.elim
  | d + 1, lv + 1, .f s as, Q, hlv, ht, hl, q => by
    refine go_law_text ?_
    have big : 10000000 ≤ sizeLine := by decide
    have hp : (Trm.f s as).p = .tup (.str s :: Trm.ps as) := rfl
    obtain ⟨j1, j2⟩ := join_len hl
    have hok : ∀ a ∈ as, PyData.strOk (txS a) = true := fun a m => txS_ok (ht.2.2 a m)
    have j3 := join_le hok j1
    have e : cutL (PV.str s :: Trm.ps as) (some 1) none = Trm.ps as := cutL_lo _ 1
    simp only [w_law_text, wIsi, tyP, isiB, wLc, iVal, wipeP, wM, wSl, oSo, oNo, slR, hp, e, sSeq, sIf, sAsg, sRet, sRetN, sNext, sDrop, gNm, gIx, gTp, gCn, gNl, tValP, tTru, truP, tNotP, tAndP, tOrP, wOp, wVar, wC, wCa, wCons, wNil, wTup, wLst, wIf, wCall, wNeg, startP, List.map_cons, List.map_nil, List.cons_append, List.nil_append, List.getElem?_cons_zero, List.getElem?_cons_succ, List.length_cons, List.length_nil, Nat.reduceAdd, Nat.reduceSub, List.replicate_succ, List.replicate_zero, List.set_cons_zero, List.set_cons_succ, Option.some.injEq, exists_eq_left', PV.bl.injEq, PV.int.injEq, PV.str.injEq, PV.ref.injEq, PV.tup.injEq, PV.lst.injEq, Cell.lst.injEq, List.cons.injEq, and_true, true_and, exists_and_left, r_add, r_adds, r_addt, r_addl, r_sub, r_mul, r_fdiv, r_mod, r_pow, r_lt, r_le, r_gt, r_ge, r_eqi, r_nei, r_eqs, r_nes, r_inti, r_intb, r_ixr, r_ixl, r_ixt, r_newt, r_newf, atI_0, atI_1, atI_2, decide_eq_true_eq]
    rw [if_neg (by decide)]
    refine ⟨rfl, _, rfl, ?_⟩
    refine lc_txt as [] _ trivial (fun a m Q' q' => ?_) (by have := ht.2.1; simp; omega) ?_
    · simp only [sSeq, sIf, sAsg, sRet, sRetN, sNext, sDrop, gNm, gIx, gTp, gCn, gNl, tValP, tTru, truP, tNotP, tAndP, tOrP, wOp, wVar, wC, wCa, wCons, wNil, wTup, wLst, wIf, wCall, wNeg, startP, List.map_cons, List.map_nil, List.cons_append, List.nil_append, List.getElem?_cons_zero, List.getElem?_cons_succ, List.length_cons, List.length_nil, Nat.reduceAdd, Nat.reduceSub, List.replicate_succ, List.replicate_zero, List.set_cons_zero, List.set_cons_succ, Option.some.injEq, exists_eq_left', PV.bl.injEq, PV.int.injEq, PV.str.injEq, PV.ref.injEq, PV.tup.injEq, PV.lst.injEq, Cell.lst.injEq, List.cons.injEq, and_true, true_and, exists_and_left, r_add, r_adds, r_addt, r_addl, r_sub, r_mul, r_fdiv, r_mod, r_pow, r_lt, r_le, r_gt, r_ge, r_eqi, r_nei, r_eqs, r_nes, r_inti, r_intb, r_ixr, r_ixl, r_ixt, r_newt, r_newf, atI_0, atI_1, atI_2, decide_eq_true_eq]
      have := tx_arg (s := s) m
      simp only [tx, List.length_append] at hl
      exact c_text d lv (by omega) (ht.2.2 a m) (by omega) q'
    · rw [List.nil_append]
      have e1 : (Str.ofString "(").length = 1 := by decide +kernel
      have e2 : (Str.ofString ")").length = 1 := by decide +kernel
      have e3 : (Str.ofString ",").length = 1 := by decide +kernel
      refine ⟨_, _, as.map txS, rfl, rfl, rfl, by rw [e3, List.length_map]; omega, ?_⟩
      rw [txt_join]
      refine r_adds.mpr ⟨by omega, ?_⟩
      refine r_adds.mpr ⟨by rw [len_app]; omega, ?_⟩
      refine r_nes.mpr (r_intb.mpr ?_)
      have hne : (Str.join "," (as.map txS) != Str.ofString "") = !as.isEmpty := by
        cases as with
        | nil => decide +kernel
        | cons a as =>
          rw [List.isEmpty_cons, Bool.not_false, bne_iff_ne]
          intro h
          have h1 := join_tx as a
          rw [h] at h1
          have h2 := congrArg List.length h1
          have h3 := tx_pos (ht.2.2 a List.mem_cons_self)
          have h4 : (Str.ofString "").cps.toList = [] := by decide +kernel
          have h5 : 1 ≤ (txL 44 as).length := by cases as <;> simp [txL]
          rw [h4, List.length_append] at h2
          simp at h2
          omega
      refine mul_b ?_
      rw [hne]
      cases as with
      | nil =>
        rw [txS_0] at q
        have e0 : s ++ Str.empty = s := by apply str_ext; rw [cps_app]; exact List.append_nil _
        have e4 : Str.empty.length = 0 := rfl
        refine r_adds.mpr ⟨?_, ?_⟩
        · simp only [List.isEmpty_nil, Bool.not_true, Bool.false_eq_true, if_false]; omega
        · simp only [List.isEmpty_nil, Bool.not_true, Bool.false_eq_true, if_false]; rw [e0]; exact q
      | cons a as =>
        rw [List.isEmpty_cons, Bool.not_false, if_pos rfl]
        refine r_adds.mpr ⟨by rw [len_app, len_app]; omega, ?_⟩
        rw [txS_f2]; exact q
end
end K06

namespace K06
open PySem PySem.Spec L2 Pv
section
variable {lv : Nat} {st : Sto} {Q : PV → Sto → Prop}
/-- a term, so deep, its text so long -/
def TN (d n : Nat) (t : Trm) : Prop := TOk d t ∧ (tx t).length ≤ n
theorem TN.dok {d n : Nat} {t : Trm} (h : TN d n t) : DOk d (20 * n) (dat t.p) := Trm.dokL h.1.ok (by have := tl_tx h.1; have := h.2; omega)
theorem rep_t {d n : Nat} {t : Trm} (h : TN d n t) (hd : d ≤ 64) (hn : n ≤ 800000) (q : Q (.str (dat t.p).shown) st) : reprR [t.p] st Q :=
  r_repr h.dok hd (by have : sizeLine = 16777216 := rfl; omega) q
theorem rep_s {s : Str} (h : PyData.strOk s = true) (hl : s.length ≤ 1000000) (q : Q (.str (PyData.str s).shown) st) : reprR [.str s] st Q :=
  ⟨_, .str s, rfl, rfl, rfl, Nat.zero_le _, Nat.le_trans (shown_le (.str s) h) (by simp only [tl]; have : sizeLine = 16777216 := rfl; omega), q⟩
theorem c_right {d : Nat} (hlv : d + 7 ≤ lv) {t : Trm} (h : TN d 800000 t) (hd : d ≤ 64) (q : ∀ st', Gr [] st st' → Q (.bl true) st') : Sem prog lv F_law_right [t.p] st Q := by
  obtain ⟨lv, rfl⟩ : ∃ j, lv = j + 1 := ⟨lv - 1, by omega⟩
  refine go_law_right ?_
  have hl : (txS t).length = (tx t).length := by simp [txS, Str.length]
  have hn := h.2
  simp only [w_law_right, sPar, sSeq, sIf, sAsg, sRet, sRetN, sNext, sDrop, gNm, gIx, gTp, gCn, gNl, tValP, tTru, truP, tNotP, tAndP, tOrP, wOp, wVar, wC, wCa, wCons, wNil, wTup, wLst, wIf, wCall, wNeg, startP, List.map_cons, List.map_nil, List.cons_append, List.nil_append, List.getElem?_cons_zero, List.getElem?_cons_succ, List.length_cons, List.length_nil, Nat.reduceAdd, Nat.reduceSub, List.replicate_succ, List.replicate_zero, List.set_cons_zero, List.set_cons_succ, Option.some.injEq, exists_eq_left', PV.bl.injEq, PV.int.injEq, PV.str.injEq, PV.ref.injEq, PV.tup.injEq, PV.lst.injEq, Cell.lst.injEq, List.cons.injEq, and_true, true_and, exists_and_left, r_add, r_adds, r_addt, r_addl, r_sub, r_mul, r_fdiv, r_mod, r_pow, r_lt, r_le, r_gt, r_ge, r_eqi, r_nei, r_eqs, r_nes, r_inti, r_intb, r_ixr, r_ixl, r_ixt, r_newt, r_newf, atI_0, atI_1, atI_2, decide_eq_true_eq]
  refine rep_t h hd (by omega) ?_
  refine c_text d lv (by omega) h.1 (by omega) ?_
  refine ⟨_, _, ⟨rfl, rfl⟩, ?_⟩
  refine c_show d lv (by omega) h.1 (by omega) ?_
  refine rep_s (txS_ok h.1) (by omega) (rep_s (txS_ok h.1) (by omega) (ne_same ⟨_, rfl, ?_⟩))
  rw [if_neg Bool.false_ne_true]
  refine c_read h.1 (by omega) (by omega) (by omega) fun st' g => ?_
  refine rep_t h hd (by omega) (ne_same ⟨_, rfl, ?_⟩)
  rw [if_neg Bool.false_ne_true]
  exact rep_t h hd (by omega) (eq_same (q st' g))
end
/-- two shown -/
def tagP : QS := (.ite (.val (.op .ne (.op .eq (.call 1 F_show_term (.cons (.var 7) .nil)) (.call 1 F_show_term (.cons (.var 8) .nil))) (.op .eq (.var 7) (.var 8)))) (.ret (.cst (.bl false))) .next)
/-- one read -/
def tagR : QS := (.seq (.asg (.call 1 F_read_term (.cons (.call 1 F_law_text (.cons (.var 6) .nil)) .nil)) (.nm 10)) (.ite (.or (.val (.op .ne (.ca .repr (.cons (.var 10) .nil)) (.ca .repr (.cons (.var 6) .nil)))) (.not (.tru (.call 1 F_law_right (.cons (.var 10) .nil))))) (.ret (.cst (.bl false))) .next))
theorem tags_are : prog.flatMap (fun F => F.body.tags) = [(0, tagP), (1, tagR)] := rfl
section
variable {lv : Nat} {st : Sto} {env : Envp} {D : EndsP} {d : Nat}
theorem ne_bl {a b : Bool} {Q : PV → Sto → Prop} (q : Q (.bl (!(a == b))) st) : neA (.bl a) (.bl b) st Q := ⟨.bool a, .bool b, rfl, rfl, rfl, rfl, by cases a <;> cases b <;> exact q⟩
theorem tagP_ok (hlv : d + 2 ≤ lv) (hd : d ≤ 64) {t u : Trm} (ht : TN d 800000 t) (hu : TN d 800000 u) (e7 : env[7]? = some (some t.p)) (e8 : env[8]? = some (some u.p)) (k : D.nx env st) : tagP.den (Sem prog lv) D env st := by
  have h1 := ht.2
  have h2 := hu.2
  simp only [tagP, QS.den, QT.den, QE.den, QA.den, OpN.den, sIf, tValP, wOp, wCall, wCons, wNil, wVar, e7, e8, Option.some.injEq, exists_eq_left']
  refine ⟨rfl, c_show d lv (by omega) ht.1 (by omega) ?_⟩
  refine ⟨rfl, c_show d lv (by omega) hu.1 (by omega) ?_⟩
  refine r_eqs.mpr (r_eqT ht.1.ok hu.1.ok hd ?_)
  rw [txS_inj ht.1 hu.1]
  refine ne_bl ⟨_, rfl, ?_⟩
  simp only [beq_self_eq_true, Bool.not_true, Bool.false_eq_true, if_false, sNext]
  exact k
theorem tagR_ok (hlv : d + 7 ≤ lv) (hd : d ≤ 64) {t : Trm} (ht : TN d 800000 t) (e6 : env[6]? = some (some t.p)) (hn : 10 < env.length) (k : ∀ st', Gr [] st st' → D.nx (env.set 10 (some t.p)) st') : tagR.den (Sem prog lv) D env st := by
  have h1 := ht.2
  have e6' : (env.set 10 (some t.p))[6]? = some (some t.p) := by rw [List.getElem?_set_ne (by decide)]; exact e6
  have e10 : (env.set 10 (some t.p))[10]? = some (some t.p) := List.getElem?_set_self hn
  simp only [tagR, QS.den, QT.den, QE.den, QA.den, OpN.den, CaN.den, QG.den, sSeq, sAsg, gNm, sIf, tOrP, tNotP, tTru, truP, tValP, wOp, wCa, wCall, wCons, wNil, wVar, e6, Option.some.injEq, exists_eq_left']
  refine ⟨rfl, c_text d lv (by omega) ht.1 (by omega) ⟨rfl, c_read ht.1 (by omega) (by omega) (by omega) fun st1 g1 => ?_⟩⟩
  refine ⟨_, e10, rep_t ht hd (by omega) ⟨_, e6', rep_t ht hd (by omega) (ne_same ⟨_, rfl, ?_⟩)⟩⟩
  rw [if_neg Bool.false_ne_true]
  refine ⟨_, e10, rfl, c_right hlv ht hd fun st2 g2 => ⟨_, rfl, ?_⟩⟩
  rw [if_neg (by decide)]
  exact k st2 (g1.trans g2)
end
end K06

namespace K06
open PySem PySem.Spec L2 Pv
/-- a def of the module: its object, its name, its parameters -/
structure IsDef (K : PySem.W.Frag) (mg : Str → Option Value) (x : Str) (st : Stmt) (ps : List Str) : Prop where
  ex : ∃ f fd, Fun K x x st f fd ∧ mg x = some (.ref f) ∧ PySem.W.keepIn K (.ref f) = true ∧ Binds K fd ps []
structure Defs (K : PySem.W.Frag) (mg : Str → Option Value) : Prop where
  d_is_spelt : IsDef K mg "is_spelt" s_is_spelt ["thing", "ahead"]
  d_is_name : IsDef K mg "is_name" s_is_name ["thing"]
  d_is_unknown : IsDef K mg "is_unknown" s_is_unknown ["thing"]
  d_within : IsDef K mg "within" s_within ["term"]
  d_show_term : IsDef K mg "show_term" s_show_term ["term"]
  d_must : IsDef K mg "must" s_must ["good"]
  d_word_end : IsDef K mg "word_end" s_word_end ["text", "start"]
  d_term_from : IsDef K mg "term_from" s_term_from ["text", "start", "deep"]
  d_read_term : IsDef K mg "read_term" s_read_term ["text"]
  d_law_deck : IsDef K mg "_law_deck" s_law_deck ["_law_cell"]
  d_law_draw : IsDef K mg "_law_draw" s_law_draw ["_law_deck_here", "_law_bound"]
  d_law_pick : IsDef K mg "_law_pick" s_law_pick ["_law_deck_here", "_law_some"]
  d_law_spelt : IsDef K mg "_law_spelt" s_law_spelt ["_law_deck_here", "_law_letters"]
  d_law_unlike : IsDef K mg "_law_unlike" s_law_unlike ["_law_deck_here", "_law_letters", "_law_many"]
  d_law_pool : IsDef K mg "_law_pool" s_law_pool ["_law_deck_here"]
  d_law_term : IsDef K mg "_law_term" s_law_term ["_law_deck_here", "_law_pool_here", "_law_unknowns", "_law_deep", "_law_left"]
  d_law_some_term : IsDef K mg "_law_some_term" s_law_some_term ["_law_deck_here", "_law_pool_here"]
  d_law_text : IsDef K mg "_law_text" s_law_text ["_law_term_here"]
  d_law_great_terms : IsDef K mg "_law_great_terms" s_law_great_terms ["_law_deck_here"]
  d_law_right : IsDef K mg "_law_right" s_law_right ["_law_term_here"]
theorem callee_of {P : Program} {w : World} {K : PySem.W.Frag} {mg : Str → Option Value} {base : Heap} {k n : Nat} {x : Str} {st : Stmt} {ps : List Str} {S : Spc} (D : IsDef K mg x st ps) (h : ∀ {f fd}, Fun K x x st f fd → FnG P w K mg base k f fd ps (spOf K n S)) : Callee P w K mg base k x n S := by
  obtain ⟨f, fd, F, a, b, c⟩ := D.ex
  exact ⟨f, fd, ps, h F, a, b, c⟩
theorem fn_zero {P : Program} {w : World} {K : PySem.W.Frag} {mg : Str → Option Value} {base : Heap} {f : Addr} {fd : FuncData} {ps : List Str} {n g : Nat} : FnG P w K mg base 0 f fd ps (spOf K n (Sem prog 0 g)) :=
  ⟨fun vs H Q E h => by obtain ⟨ro, fr, xs, st, Qp, a, b, c, d, e⟩ := h; exact d.elim, fun A outer s H args us vs Q hr hg he hb hv h => by obtain ⟨ro, fr, xs, st, Qp, a, b, c, d, e⟩ := h; exact d.elim⟩
/-- all defs keep their meaning at a level -/
structure Lv (P : Program) (w : World) (K : PySem.W.Frag) (mg : Str → Option Value) (base : Heap) (k : Nat) : Prop where
  c_is_spelt : Callee P w K mg base k "is_spelt" 2 (Sem prog k F_is_spelt)
  c_is_name : Callee P w K mg base k "is_name" 1 (Sem prog k F_is_name)
  c_is_unknown : Callee P w K mg base k "is_unknown" 1 (Sem prog k F_is_unknown)
  c_within : Callee P w K mg base k "within" 1 (Sem prog k F_within)
  c_show_term : Callee P w K mg base k "show_term" 1 (Sem prog k F_show_term)
  c_must : Callee P w K mg base k "must" 1 (Sem prog k F_must)
  c_word_end : Callee P w K mg base k "word_end" 2 (Sem prog k F_word_end)
  c_term_from : Callee P w K mg base k "term_from" 3 (Sem prog k F_term_from)
  c_read_term : Callee P w K mg base k "read_term" 1 (Sem prog k F_read_term)
  c_law_deck : Callee P w K mg base k "_law_deck" 1 (Sem prog k F_law_deck)
  c_law_draw : Callee P w K mg base k "_law_draw" 2 (Sem prog k F_law_draw)
  c_law_pick : Callee P w K mg base k "_law_pick" 2 (Sem prog k F_law_pick)
  c_law_spelt : Callee P w K mg base k "_law_spelt" 2 (Sem prog k F_law_spelt)
  c_law_unlike : Callee P w K mg base k "_law_unlike" 3 (Sem prog k F_law_unlike)
  c_law_pool : Callee P w K mg base k "_law_pool" 1 (Sem prog k F_law_pool)
  c_law_term : Callee P w K mg base k "_law_term" 5 (Sem prog k F_law_term)
  c_law_some_term : Callee P w K mg base k "_law_some_term" 2 (Sem prog k F_law_some_term)
  c_law_text : Callee P w K mg base k "_law_text" 1 (Sem prog k F_law_text)
  c_law_great_terms : Callee P w K mg base k "_law_great_terms" 1 (Sem prog k F_law_great_terms)
  c_law_right : Callee P w K mg base k "_law_right" 1 (Sem prog k F_law_right)
theorem lv_all {P : Program} {w : World} {K : PySem.W.Frag} {mg : Str → Option Value} {base : Heap} (T : Txt mg) (D : Defs K mg) : ∀ k, Lv P w K mg base k
  | 0 => ⟨callee_of D.d_is_spelt fun _ => fn_zero, callee_of D.d_is_name fun _ => fn_zero, callee_of D.d_is_unknown fun _ => fn_zero, callee_of D.d_within fun _ => fn_zero, callee_of D.d_show_term fun _ => fn_zero, callee_of D.d_must fun _ => fn_zero, callee_of D.d_word_end fun _ => fn_zero, callee_of D.d_term_from fun _ => fn_zero, callee_of D.d_read_term fun _ => fn_zero, callee_of D.d_law_deck fun _ => fn_zero, callee_of D.d_law_draw fun _ => fn_zero, callee_of D.d_law_pick fun _ => fn_zero, callee_of D.d_law_spelt fun _ => fn_zero, callee_of D.d_law_unlike fun _ => fn_zero, callee_of D.d_law_pool fun _ => fn_zero, callee_of D.d_law_term fun _ => fn_zero, callee_of D.d_law_some_term fun _ => fn_zero, callee_of D.d_law_text fun _ => fn_zero, callee_of D.d_law_great_terms fun _ => fn_zero, callee_of D.d_law_right fun _ => fn_zero⟩
  | k + 1 => by
    have L : Lv P w K mg base k := lv_all T D k
    exact ⟨callee_of D.d_is_spelt fun F => ok_is_spelt F T fun xs sto Q _ h => (qd_is_spelt (Sem prog k)) ▸ h,
      callee_of D.d_is_name fun F => ok_is_name F T L.c_is_spelt fun xs sto Q _ h => (qd_is_name (Sem prog k)) ▸ h,
      callee_of D.d_is_unknown fun F => ok_is_unknown F T L.c_is_spelt fun xs sto Q _ h => (qd_is_unknown (Sem prog k)) ▸ h,
      callee_of D.d_within fun F => ok_within F T fun xs sto Q _ h => (qd_within (Sem prog k)) ▸ h,
      callee_of D.d_show_term fun F => ok_show_term F T L.c_within L.c_show_term fun xs sto Q _ h => (qd_show_term (Sem prog k)) ▸ h,
      callee_of D.d_must fun F => ok_must F T fun xs sto Q _ h => (qd_must (Sem prog k)) ▸ h,
      callee_of D.d_word_end fun F => ok_word_end F T fun xs sto Q _ h => (qd_word_end (Sem prog k)) ▸ h,
      callee_of D.d_term_from fun F => ok_term_from F T L.c_must L.c_word_end L.c_is_unknown L.c_is_name L.c_term_from fun xs sto Q _ h => (qd_term_from (Sem prog k)) ▸ h,
      callee_of D.d_read_term fun F => ok_read_term F T L.c_must L.c_term_from fun xs sto Q _ h => (qd_read_term (Sem prog k)) ▸ h,
      callee_of D.d_law_deck fun F => ok_law_deck F T fun xs sto Q _ h => (qd_law_deck (Sem prog k)) ▸ h,
      callee_of D.d_law_draw fun F => ok_law_draw F T fun xs sto Q _ h => (qd_law_draw (Sem prog k)) ▸ h,
      callee_of D.d_law_pick fun F => ok_law_pick F T L.c_law_draw fun xs sto Q _ h => (qd_law_pick (Sem prog k)) ▸ h,
      callee_of D.d_law_spelt fun F => ok_law_spelt F T L.c_law_draw fun xs sto Q _ h => (qd_law_spelt (Sem prog k)) ▸ h,
      callee_of D.d_law_unlike fun F => ok_law_unlike F T L.c_law_draw L.c_law_spelt fun xs sto Q _ h => (qd_law_unlike (Sem prog k)) ▸ h,
      callee_of D.d_law_pool fun F => ok_law_pool F T L.c_law_unlike L.c_law_draw fun xs sto Q _ h => (qd_law_pool (Sem prog k)) ▸ h,
      callee_of D.d_law_term fun F => ok_law_term F T L.c_law_draw L.c_law_pick L.c_law_term fun xs sto Q _ h => (qd_law_term (Sem prog k)) ▸ h,
      callee_of D.d_law_some_term fun F => ok_law_some_term F T L.c_law_draw L.c_law_term fun xs sto Q _ h => (qd_law_some_term (Sem prog k)) ▸ h,
      callee_of D.d_law_text fun F => ok_law_text F T L.c_law_text fun xs sto Q _ h => (qd_law_text (Sem prog k)) ▸ h,
      callee_of D.d_law_great_terms fun F => ok_law_great_terms F T L.c_law_unlike fun xs sto Q _ h => (qd_law_great_terms (Sem prog k)) ▸ h,
      callee_of D.d_law_right fun F => ok_law_right F T L.c_law_text L.c_show_term L.c_read_term fun xs sto Q _ h => (qd_law_right (Sem prog k)) ▸ h⟩
/-- the law answers True, where its reading does -/
theorem main {P : Program} {w : World} {K : PySem.W.Frag} {mg : Str → Option Value} {base : Heap} {f : Addr} {fd : FuncData} (T : Txt mg) (D : Defs K mg) (F : Fun K "law" "law" s_law f fd) {k : Nat} (h : ∀ (ns : List Int) (Q : PV → Sto → Prop), ns.length ≤ 63 → (∀ st', Q (.bl true) st') → Sem prog (k + 1) F_law [.fls (pInts ns)] [] Q) : FnG P w K mg base (k + 1) f fd ["_law_script"] (spOf K 1 lawS) := by
  have L : Lv P w K mg base k := lv_all T D k
  refine ok_law F T L.c_law_deck L.c_law_pool L.c_law_some_term L.c_law_right L.c_show_term L.c_law_draw L.c_law_great_terms L.c_law_text L.c_read_term fun xs sto Q _ hl => ?_
  obtain ⟨ns, rfl, hn, rfl, q⟩ := hl
  have := h ns Q hn q
  exact (qd_law (Sem prog k)) ▸ this
end K06

namespace K06
open PySem PySem.Spec L2 Pv
/-! types of terms by depth and length of text -/
def U2 : UT
  | 0, v => ∃ s, v = .str s ∧ Spelt small s
  | 1, v => ∃ s, v = .str s ∧ Spelt great s
  | u + 2, v => ∃ t, v = Trm.p t ∧ TN (u / 1000000) (u % 1000000) t
theorem words2 : Words U2 := ⟨fun _ => Iff.rfl, fun _ => Iff.rfl⟩
def code (d n : Nat) : Nat := d * 1000000 + n + 2
theorem U2_code {d n : Nat} (hn : n < 1000000) {v : PV} : U2 (code d n) v ↔ ∃ t, v = Trm.p t ∧ TN d n t := by
  show (∃ t, v = Trm.p t ∧ TN ((d * 1000000 + n) / 1000000) ((d * 1000000 + n) % 1000000) t) ↔ _
  rw [show (d * 1000000 + n) / 1000000 = d by omega, show (d * 1000000 + n) % 1000000 = n by omega]
def speltB (L s : Str) : Bool := match s.cps.toList with
  | c :: r => decide (c ∈ L.cps.toList) && r.all (fun x => decide (x ∈ small.cps.toList)) && decide (r.length ≤ 5)
  | [] => false
theorem speltB_ok {L s : Str} (h : speltB L s = true) : Spelt L s := by
  unfold speltB at h
  split at h
  · rename_i c r e
    simp only [Bool.and_eq_true, decide_eq_true_eq, List.all_eq_true] at h
    exact ⟨c, r, e, h.1.1, h.1.2, h.2⟩
  · cases h
def tmL (g : Ty → Option (Nat × Nat)) : List Ty → Option (Nat × Nat)
  | [] => some (0, 0)
  | t :: ts => match g t, tmL g ts with
    | some (d, n), some (e, m) => some (max d e, n + 1 + m)
    | _, _ => none
def tms (f : Ty → Ty → Bool) : Nat → Ty → Option (Nat × Nat)
  | 0, _ => none
  | k + 1, t => match t with
    | .usr 1 => some (0, 6)
    | .usr (u + 2) => some (u / 1000000, u % 1000000)
    | .cst s => if speltB great s = true then some (0, 6) else none
    | .tup (a :: ts) => if (f a (.usr 0) && decide (ts.length ≤ 3)) = true then (match tmL (tms f k) ts with
      | some (d, n) => some (d + 1, n + 7)
      | none => none) else none
    | _ => none
def us2 : US where
  into := fun f a u => match u with
    | 0 => (match a with
      | .cst s => speltB small s
      | _ => false)
    | 1 => (match a with
      | .cst s => speltB great s
      | _ => false)
    | u + 2 => match tms f 40 a with
      | some (d, n) => decide (d ≤ u / 1000000) && decide (n ≤ u % 1000000)
      | none => false
  unf := fun u => match u with
    | 0 => .str 1 6 none
    | 1 => .str 1 6 none
    | u + 2 => .dat (u / 1000000) (20 * (u % 1000000))
theorem TN.up {d n e m : Nat} {t : Trm} (h : TN d n t) (h1 : d ≤ e) (h2 : n ≤ m) : TN e m t := ⟨h.1.up h1, Nat.le_trans h.2 h2⟩
section
variable {ρ ν ρ' ν' : List Nat} {f : Ty → Ty → Bool}
theorem TN_u {s : Str} (h : Spelt great s) : TN 0 6 (.u s) := ⟨TOk.u.mpr h, by simp only [tx, len_list]; exact h.len.2⟩
theorem tmL_ok {g : Ty → Option (Nat × Nat)} (hg : ∀ t d n v, g t = some (d, n) → t.has U2 ρ ν v → ∃ x, v = Trm.p x ∧ TN d n x) : ∀ {ts : List Ty} {d n : Nat} {xs : List PV}, tmL g ts = some (d, n) → Ty.hasL U2 ρ ν ts xs → ∃ as : List Trm, xs = Trm.ps as ∧ as.length = ts.length ∧ (∀ a ∈ as, TOk d a) ∧ (∀ sep, (txL sep as).length ≤ n + 1)
  | [], d, n, xs, h, g => by
    cases h
    simp only [Ty.hasL] at g
    exact ⟨[], by rw [g]; rfl, rfl, nofun, fun sep => by simp only [txL]; split <;> simp⟩
  | t :: ts, d, n, xs, h, g => by
    simp only [tmL] at h
    split at h
    · rename_i d1 n1 d2 n2 e1 e2
      cases h
      simp only [Ty.hasL] at g
      obtain ⟨y, ys, rfl, gy, gys⟩ := g
      obtain ⟨x, rfl, hx⟩ := hg _ _ _ _ e1 gy
      obtain ⟨as, rfl, hl, ha, hn⟩ := tmL_ok hg e2 gys
      refine ⟨x :: as, rfl, by simp [hl], fun a m => ?_, fun sep => ?_⟩
      · rcases List.mem_cons.mp m with rfl | m
        · exact hx.1.up (by omega)
        · exact (ha a m).up (by omega)
      · have h1 := hn 44
        have h2 := hx.2
        simp only [txL, List.length_cons, List.length_append]
        omega
    · cases h
theorem tms_ok (hf : ∀ a b v, f a b = true → a.has U2 ρ ν v → b.has U2 ρ' ν' v) : ∀ (k : Nat) (t : Ty) (d n : Nat) (v : PV), tms f k t = some (d, n) → t.has U2 ρ ν v → ∃ x, v = Trm.p x ∧ TN d n x
  | 0, t, d, n, v, h, g => by cases h
  | k + 1, t, d, n, v, h, g => by
    simp only [tms] at h
    split at h
    · cases h
      simp only [Ty.has, U2] at g
      obtain ⟨s, rfl, hs⟩ := g
      exact ⟨.u s, rfl, TN_u hs⟩
    · cases h
      simp only [Ty.has, U2] at g
      exact g
    · split at h
      · rename_i hb
        cases h
        simp only [Ty.has] at g
        obtain ⟨rfl, _⟩ := g
        exact ⟨.u _, rfl, TN_u (speltB_ok hb)⟩
      · cases h
    · rename_i a ts
      split at h
      · rename_i hb
        simp only [Bool.and_eq_true, decide_eq_true_eq] at hb
        split at h
        · rename_i d1 n1 e1
          cases h
          simp only [Ty.has, Ty.hasL] at g
          obtain ⟨xs, rfl, y, ys, rfl, gy, gys⟩ := g
          have hy := hf a (.usr 0) y hb.1 gy
          simp only [Ty.has, U2] at hy
          obtain ⟨s, rfl, hs⟩ := hy
          obtain ⟨as, rfl, hl, ha, hn⟩ := tmL_ok (tms_ok hf k) e1 gys
          refine ⟨.f s as, rfl, ⟨hs, by omega, ha⟩, ?_⟩
          have h1 := hn 40
          have h2 := hs.len.2
          simp only [tx, List.length_append, len_list]; omega
        · cases h
      · cases h
    · cases h
end
theorem ok2 : USok U2 us2 where
  unf := fun u v ρ ν h => by
    match u, h with
    | 0, ⟨s, e, h⟩ => simp only [us2, Ty.has]; exact ⟨s, e, h.ok small_ok, h.len.1, h.len.2, trivial⟩
    | 1, ⟨s, e, h⟩ => simp only [us2, Ty.has]; exact ⟨s, e, h.ok great_ok, h.len.1, h.len.2, trivial⟩
    | d + 2, ⟨t, e, ht⟩ => subst e; simp only [us2, Ty.has]; exact ⟨Trm.isD t, ht.dok⟩
  into := fun f ρ ν ρ' ν' a u v hf h g => by
    match u, h with
    | 0, h =>
      simp only [us2] at h
      split at h
      · simp only [Ty.has] at g
        obtain ⟨rfl, _⟩ := g
        exact ⟨_, rfl, speltB_ok h⟩
      · cases h
    | 1, h =>
      simp only [us2] at h
      split at h
      · simp only [Ty.has] at g
        obtain ⟨rfl, _⟩ := g
        exact ⟨_, rfl, speltB_ok h⟩
      · cases h
    | u + 2, h =>
      simp only [us2] at h
      split at h
      · rename_i d n e
        simp only [Bool.and_eq_true, decide_eq_true_eq] at h
        obtain ⟨x, rfl, hx⟩ := tms_ok hf 40 a d n v e g
        exact ⟨x, rfl, hx.up h.1 h.2⟩
      · cases h
/-- any term that comes -/
def TT : Nat := code 30 800000
theorem TT_of {ρ ν : List Nat} {v : PV} (g : (Ty.usr TT).has U2 ρ ν v) : ∃ t, v = Trm.p t ∧ TN 30 800000 t := by
  simp only [Ty.has] at g
  exact (U2_code (by decide)).mp g
def rightF : TyF := fun ts cs n => match ts with
  | [t] => if Ty.sub us2 cs.length n 25 t (.usr TT) = true then some (.bl false true, cs, n) else none
  | _ => none
def dcode (d : Nat) : Nat := code d (txM d)
theorem dcode_ok (d : Nat) (t : Trm) (hd : d ≤ 8) (h : TOk d t) : U2 (dcode d) t.p := by
  have h1 : ∀ d ≤ 8, txM d < 1000000 := by decide
  exact (U2_code (h1 d hd)).mpr ⟨t, rfl, h, tx_le h⟩
def sm : SM := fun f => if f = F_law_unlike then some (3, wordsF us2) else if f = F_law_term then some (10, termF us2 dcode) else if f = F_law_right then some (37, rightF) else none
theorem sm_ok : ∀ f lv F, sm f = some (lv, F) → ∀ k, lv ≤ k → ∀ ts cs n r, F ts cs n = some r → ∀ ρ ν st xs Q, StoIn U2 cs n ρ ν st → Ty.hasL U2 ρ ν ts xs → PostE U2 r ρ ν st Q → Sem prog k f xs st Q := fun f lv F h k hk ts cs n r hF ρ ν st xs Q I g P => by
  unfold sm at h
  split at h
  · subst f; cases h; exact c_unlike hk (wordsF_ok ok2 words2 I hF g P)
  · split at h
    · subst f; cases h
      obtain ⟨d, hd, hS⟩ := termF_ok ok2 words2 dcode_ok I hF g P
      exact c_term d k _ _ _ (by omega) hS
    · split at h
      · subst f; cases h
        unfold rightF at hF
        split at hF
        · split at hF
          · rename_i hs
            cases hF
            obtain ⟨v, rfl, gv⟩ := hasL_one g
            obtain ⟨t, rfl, ht⟩ := TT_of (sub_self ok2 I hs gv)
            exact c_right hk ht (by decide) fun st' g1 => P ρ ν st' _ (Step.gr g1 (by simp)) (I.gr g1 (by simp)) (bl_has rfl)
          · cases hF
        · cases hF
      · cases h
def tyAt (S : AS) (i : Nat) : Bool := match S.ev[i]? with
  | some (some t) => Ty.sub us2 S.cs.length S.n 25 t (.usr TT)
  | _ => false
theorem tyAt_ok {S : AS} {ρ ν : List Nat} {env : Envp} {st : Sto} (I : In U2 S ρ ν env st) {i : Nat} (h : tyAt S i = true) : ∃ t, env[i]? = some (some (Trm.p t)) ∧ TN 30 800000 t := by
  unfold tyAt at h
  split at h
  · rename_i t e
    obtain ⟨v, q1, q2⟩ := I.1.2 i t e
    obtain ⟨x, rfl, hx⟩ := TT_of (sub_self ok2 I.2 h q2)
    exact ⟨x, q1, hx⟩
  · cases h
def tm : TM := fun i => if i = 0 then some (37, fun S => if (tyAt S 7 && tyAt S 8) = true then some ⟨some S, none, none, none⟩ else none)
  else if i = 1 then some (37, fun S => if (tyAt S 6 && decide (10 < S.ev.length)) = true then some ⟨some (bindT 10 (.usr TT) S), none, none, none⟩ else none) else none
theorem tm_ok : ∀ F ∈ prog, ∀ p ∈ F.body.tags, ∀ lv G, tm p.1 = some (lv, G) → ∀ k, lv ≤ k → TagOk U2 (Sem prog k) G p.2 := fun F hF p hp lv G hG k hk => by
  have hm : p ∈ prog.flatMap (fun F => F.body.tags) := List.mem_flatMap.mpr ⟨F, hF, hp⟩
  rw [tags_are] at hm
  simp only [List.mem_cons, List.not_mem_nil, or_false] at hm
  rcases hm with rfl | rfl
  · cases hG
    intro S o h ρ ν env st D I P
    dsimp only at h
    split at h
    · rename_i hb
      cases h
      simp only [Bool.and_eq_true] at hb
      obtain ⟨t, e7, ht⟩ := tyAt_ok I hb.1
      obtain ⟨u, e8, hu⟩ := tyAt_ok I hb.2
      exact tagP_ok (by omega) (by decide) ht hu e7 e8 (P.nx _ _ ⟨S, ρ, ν, rfl, .refl, I⟩)
    · cases h
  · cases hG
    intro S o h ρ ν env st D I P
    dsimp only at h
    split at h
    · rename_i hb
      cases h
      simp only [Bool.and_eq_true, decide_eq_true_eq] at hb
      obtain ⟨t, e6, ht⟩ := tyAt_ok I hb.1
      refine tagR_ok hk (by decide) ht e6 (by rw [I.1.1]; exact hb.2) fun st' g => ?_
      have s1 : Step ρ ν st ρ ν st' := Step.gr g (by simp)
      refine bindT_ok (t := .usr TT) (Q := D.nx) ⟨I.1, I.2.gr g (by simp)⟩ ?_ fun ρ2 ν2 st2 env2 s2 I2 => P.nx _ _ ⟨_, ρ2, ν2, rfl, s1.trans s2, I2⟩
      simp only [Ty.has]
      exact (U2_code (by decide)).mpr ⟨t, rfl, ht⟩
    · cases h
theorem chk : isTrueR (evF us2 prog sm tm 60 F_law [.seq .fls anyI 0 63 none] [] 0) = true := by decide +kernel
theorem law_true (ns : List Int) (Q : PV → Sto → Prop) (hn : ns.length ≤ 63) (q : ∀ st', Q (.bl true) st') : Sem prog 60 F_law [.fls (pInts ns)] [] Q := law_by ok2 sm_ok tm_ok chk ns Q hn q
end K06

namespace K06
open PySem PySem.Spec L2 Pv
theorem all_mk {l : PySem.W.OpenLaw} {w : World} {K : PySem.W.Frag} {h : Heap} {mg : Str → Option Value} {fa : Addr} (X : K.In h) (G : h.Ns mainGlobals mg) (hfa : mg "law" = some (.ref fa))
    {od0 an0 : Option Addr} {sl0 : Array (Option Value)} {oc0 kV0 dc0 pm0 cd0 ct0 : Value} {f0 : Addr} {od1 an1 : Option Addr} {sl1 : Array (Option Value)} {oc1 kV1 dc1 pm1 cd1 ct1 : Value} {f1 : Addr} {od2 an2 : Option Addr} {sl2 : Array (Option Value)} {oc2 kV2 dc2 pm2 cd2 ct2 : Value} {f2 : Addr} {od3 an3 : Option Addr} {sl3 : Array (Option Value)} {oc3 kV3 dc3 pm3 cd3 ct3 : Value} {f3 : Addr} {od4 an4 : Option Addr} {sl4 : Array (Option Value)} {oc4 kV4 dc4 pm4 cd4 ct4 : Value} {f4 : Addr} {od5 an5 : Option Addr} {sl5 : Array (Option Value)} {oc5 kV5 dc5 pm5 cd5 ct5 : Value} {f5 : Addr} {od6 an6 : Option Addr} {sl6 : Array (Option Value)} {oc6 kV6 dc6 pm6 cd6 ct6 : Value} {f6 : Addr} {od7 an7 : Option Addr} {sl7 : Array (Option Value)} {oc7 kV7 dc7 pm7 cd7 ct7 : Value} {f7 : Addr} {od8 an8 : Option Addr} {sl8 : Array (Option Value)} {oc8 kV8 dc8 pm8 cd8 ct8 : Value} {f8 : Addr} {od9 an9 : Option Addr} {sl9 : Array (Option Value)} {oc9 kV9 dc9 pm9 cd9 ct9 : Value} {f9 : Addr} {od10 an10 : Option Addr} {sl10 : Array (Option Value)} {oc10 kV10 dc10 pm10 cd10 ct10 : Value} {f10 : Addr} {od11 an11 : Option Addr} {sl11 : Array (Option Value)} {oc11 kV11 dc11 pm11 cd11 ct11 : Value} {f11 : Addr} {od12 an12 : Option Addr} {sl12 : Array (Option Value)} {oc12 kV12 dc12 pm12 cd12 ct12 : Value} {f12 : Addr} {od13 an13 : Option Addr} {sl13 : Array (Option Value)} {oc13 kV13 dc13 pm13 cd13 ct13 : Value} {f13 : Addr} {od14 an14 : Option Addr} {sl14 : Array (Option Value)} {oc14 kV14 dc14 pm14 cd14 ct14 : Value} {f14 : Addr} {od15 an15 : Option Addr} {sl15 : Array (Option Value)} {oc15 kV15 dc15 pm15 cd15 ct15 : Value} {f15 : Addr} {od16 an16 : Option Addr} {sl16 : Array (Option Value)} {oc16 kV16 dc16 pm16 cd16 ct16 : Value} {f16 : Addr} {od17 an17 : Option Addr} {sl17 : Array (Option Value)} {oc17 kV17 dc17 pm17 cd17 ct17 : Value} {f17 : Addr} {od18 an18 : Option Addr} {sl18 : Array (Option Value)} {oc18 kV18 dc18 pm18 cd18 ct18 : Value} {f18 : Addr} {od19 an19 : Option Addr} {sl19 : Array (Option Value)} {oc19 kV19 dc19 pm19 cd19 ct19 : Value} {f19 : Addr} {od20 an20 : Option Addr} {sl20 : Array (Option Value)} {oc20 kV20 dc20 pm20 cd20 ct20 : Value} {f20 : Addr}
    (a0 : PySem.W.nsIn K mainGlobals "is_spelt" = some (some (.ref f0))) (l0 : K.lookup f0 = some ⟨oc0, od0, .func (PySem.W.fnOf "is_spelt" "is_spelt" (defArgs s_is_spelt) (defBody s_is_spelt) (defScope s_is_spelt) .none kV0 dc0 pm0 an0 cd0 ct0), sl0⟩) (c0 : PySem.W.codeIn K cd0 "is_spelt" = true) (k0 : PySem.W.keepIn K (.ref f0) = true)
    (a1 : PySem.W.nsIn K mainGlobals "is_name" = some (some (.ref f1))) (l1 : K.lookup f1 = some ⟨oc1, od1, .func (PySem.W.fnOf "is_name" "is_name" (defArgs s_is_name) (defBody s_is_name) (defScope s_is_name) .none kV1 dc1 pm1 an1 cd1 ct1), sl1⟩) (c1 : PySem.W.codeIn K cd1 "is_name" = true) (k1 : PySem.W.keepIn K (.ref f1) = true)
    (a2 : PySem.W.nsIn K mainGlobals "is_unknown" = some (some (.ref f2))) (l2 : K.lookup f2 = some ⟨oc2, od2, .func (PySem.W.fnOf "is_unknown" "is_unknown" (defArgs s_is_unknown) (defBody s_is_unknown) (defScope s_is_unknown) .none kV2 dc2 pm2 an2 cd2 ct2), sl2⟩) (c2 : PySem.W.codeIn K cd2 "is_unknown" = true) (k2 : PySem.W.keepIn K (.ref f2) = true)
    (a3 : PySem.W.nsIn K mainGlobals "within" = some (some (.ref f3))) (l3 : K.lookup f3 = some ⟨oc3, od3, .func (PySem.W.fnOf "within" "within" (defArgs s_within) (defBody s_within) (defScope s_within) .none kV3 dc3 pm3 an3 cd3 ct3), sl3⟩) (c3 : PySem.W.codeIn K cd3 "within" = true) (k3 : PySem.W.keepIn K (.ref f3) = true)
    (a4 : PySem.W.nsIn K mainGlobals "show_term" = some (some (.ref f4))) (l4 : K.lookup f4 = some ⟨oc4, od4, .func (PySem.W.fnOf "show_term" "show_term" (defArgs s_show_term) (defBody s_show_term) (defScope s_show_term) .none kV4 dc4 pm4 an4 cd4 ct4), sl4⟩) (c4 : PySem.W.codeIn K cd4 "show_term" = true) (k4 : PySem.W.keepIn K (.ref f4) = true)
    (a5 : PySem.W.nsIn K mainGlobals "must" = some (some (.ref f5))) (l5 : K.lookup f5 = some ⟨oc5, od5, .func (PySem.W.fnOf "must" "must" (defArgs s_must) (defBody s_must) (defScope s_must) .none kV5 dc5 pm5 an5 cd5 ct5), sl5⟩) (c5 : PySem.W.codeIn K cd5 "must" = true) (k5 : PySem.W.keepIn K (.ref f5) = true)
    (a6 : PySem.W.nsIn K mainGlobals "word_end" = some (some (.ref f6))) (l6 : K.lookup f6 = some ⟨oc6, od6, .func (PySem.W.fnOf "word_end" "word_end" (defArgs s_word_end) (defBody s_word_end) (defScope s_word_end) .none kV6 dc6 pm6 an6 cd6 ct6), sl6⟩) (c6 : PySem.W.codeIn K cd6 "word_end" = true) (k6 : PySem.W.keepIn K (.ref f6) = true)
    (a7 : PySem.W.nsIn K mainGlobals "term_from" = some (some (.ref f7))) (l7 : K.lookup f7 = some ⟨oc7, od7, .func (PySem.W.fnOf "term_from" "term_from" (defArgs s_term_from) (defBody s_term_from) (defScope s_term_from) .none kV7 dc7 pm7 an7 cd7 ct7), sl7⟩) (c7 : PySem.W.codeIn K cd7 "term_from" = true) (k7 : PySem.W.keepIn K (.ref f7) = true)
    (a8 : PySem.W.nsIn K mainGlobals "read_term" = some (some (.ref f8))) (l8 : K.lookup f8 = some ⟨oc8, od8, .func (PySem.W.fnOf "read_term" "read_term" (defArgs s_read_term) (defBody s_read_term) (defScope s_read_term) .none kV8 dc8 pm8 an8 cd8 ct8), sl8⟩) (c8 : PySem.W.codeIn K cd8 "read_term" = true) (k8 : PySem.W.keepIn K (.ref f8) = true)
    (a9 : PySem.W.nsIn K mainGlobals "_law_deck" = some (some (.ref f9))) (l9 : K.lookup f9 = some ⟨oc9, od9, .func (PySem.W.fnOf "_law_deck" "_law_deck" (defArgs s_law_deck) (defBody s_law_deck) (defScope s_law_deck) .none kV9 dc9 pm9 an9 cd9 ct9), sl9⟩) (c9 : PySem.W.codeIn K cd9 "_law_deck" = true) (k9 : PySem.W.keepIn K (.ref f9) = true)
    (a10 : PySem.W.nsIn K mainGlobals "_law_draw" = some (some (.ref f10))) (l10 : K.lookup f10 = some ⟨oc10, od10, .func (PySem.W.fnOf "_law_draw" "_law_draw" (defArgs s_law_draw) (defBody s_law_draw) (defScope s_law_draw) .none kV10 dc10 pm10 an10 cd10 ct10), sl10⟩) (c10 : PySem.W.codeIn K cd10 "_law_draw" = true) (k10 : PySem.W.keepIn K (.ref f10) = true)
    (a11 : PySem.W.nsIn K mainGlobals "_law_pick" = some (some (.ref f11))) (l11 : K.lookup f11 = some ⟨oc11, od11, .func (PySem.W.fnOf "_law_pick" "_law_pick" (defArgs s_law_pick) (defBody s_law_pick) (defScope s_law_pick) .none kV11 dc11 pm11 an11 cd11 ct11), sl11⟩) (c11 : PySem.W.codeIn K cd11 "_law_pick" = true) (k11 : PySem.W.keepIn K (.ref f11) = true)
    (a12 : PySem.W.nsIn K mainGlobals "_law_spelt" = some (some (.ref f12))) (l12 : K.lookup f12 = some ⟨oc12, od12, .func (PySem.W.fnOf "_law_spelt" "_law_spelt" (defArgs s_law_spelt) (defBody s_law_spelt) (defScope s_law_spelt) .none kV12 dc12 pm12 an12 cd12 ct12), sl12⟩) (c12 : PySem.W.codeIn K cd12 "_law_spelt" = true) (k12 : PySem.W.keepIn K (.ref f12) = true)
    (a13 : PySem.W.nsIn K mainGlobals "_law_unlike" = some (some (.ref f13))) (l13 : K.lookup f13 = some ⟨oc13, od13, .func (PySem.W.fnOf "_law_unlike" "_law_unlike" (defArgs s_law_unlike) (defBody s_law_unlike) (defScope s_law_unlike) .none kV13 dc13 pm13 an13 cd13 ct13), sl13⟩) (c13 : PySem.W.codeIn K cd13 "_law_unlike" = true) (k13 : PySem.W.keepIn K (.ref f13) = true)
    (a14 : PySem.W.nsIn K mainGlobals "_law_pool" = some (some (.ref f14))) (l14 : K.lookup f14 = some ⟨oc14, od14, .func (PySem.W.fnOf "_law_pool" "_law_pool" (defArgs s_law_pool) (defBody s_law_pool) (defScope s_law_pool) .none kV14 dc14 pm14 an14 cd14 ct14), sl14⟩) (c14 : PySem.W.codeIn K cd14 "_law_pool" = true) (k14 : PySem.W.keepIn K (.ref f14) = true)
    (a15 : PySem.W.nsIn K mainGlobals "_law_term" = some (some (.ref f15))) (l15 : K.lookup f15 = some ⟨oc15, od15, .func (PySem.W.fnOf "_law_term" "_law_term" (defArgs s_law_term) (defBody s_law_term) (defScope s_law_term) .none kV15 dc15 pm15 an15 cd15 ct15), sl15⟩) (c15 : PySem.W.codeIn K cd15 "_law_term" = true) (k15 : PySem.W.keepIn K (.ref f15) = true)
    (a16 : PySem.W.nsIn K mainGlobals "_law_some_term" = some (some (.ref f16))) (l16 : K.lookup f16 = some ⟨oc16, od16, .func (PySem.W.fnOf "_law_some_term" "_law_some_term" (defArgs s_law_some_term) (defBody s_law_some_term) (defScope s_law_some_term) .none kV16 dc16 pm16 an16 cd16 ct16), sl16⟩) (c16 : PySem.W.codeIn K cd16 "_law_some_term" = true) (k16 : PySem.W.keepIn K (.ref f16) = true)
    (a17 : PySem.W.nsIn K mainGlobals "_law_text" = some (some (.ref f17))) (l17 : K.lookup f17 = some ⟨oc17, od17, .func (PySem.W.fnOf "_law_text" "_law_text" (defArgs s_law_text) (defBody s_law_text) (defScope s_law_text) .none kV17 dc17 pm17 an17 cd17 ct17), sl17⟩) (c17 : PySem.W.codeIn K cd17 "_law_text" = true) (k17 : PySem.W.keepIn K (.ref f17) = true)
    (a18 : PySem.W.nsIn K mainGlobals "_law_great_terms" = some (some (.ref f18))) (l18 : K.lookup f18 = some ⟨oc18, od18, .func (PySem.W.fnOf "_law_great_terms" "_law_great_terms" (defArgs s_law_great_terms) (defBody s_law_great_terms) (defScope s_law_great_terms) .none kV18 dc18 pm18 an18 cd18 ct18), sl18⟩) (c18 : PySem.W.codeIn K cd18 "_law_great_terms" = true) (k18 : PySem.W.keepIn K (.ref f18) = true)
    (a19 : PySem.W.nsIn K mainGlobals "_law_right" = some (some (.ref f19))) (l19 : K.lookup f19 = some ⟨oc19, od19, .func (PySem.W.fnOf "_law_right" "_law_right" (defArgs s_law_right) (defBody s_law_right) (defScope s_law_right) .none kV19 dc19 pm19 an19 cd19 ct19), sl19⟩) (c19 : PySem.W.codeIn K cd19 "_law_right" = true) (k19 : PySem.W.keepIn K (.ref f19) = true)
    (a20 : PySem.W.nsIn K mainGlobals "law" = some (some (.ref f20))) (l20 : K.lookup f20 = some ⟨oc20, od20, .func (PySem.W.fnOf "law" "law" (defArgs s_law) (defBody s_law) (defScope s_law) .none kV20 dc20 pm20 an20 cd20 ct20), sl20⟩) (c20 : PySem.W.codeIn K cd20 "law" = true) (k20 : PySem.W.keepIn K (.ref f20) = true)
    {t_DEEPEST : Tok} (y_DEEPEST : PySem.W.nsIn K mainGlobals "DEEPEST" = some (some (.int 100 t_DEEPEST)))
    {t_GREAT : Tok} (y_GREAT : PySem.W.nsIn K mainGlobals "GREAT" = some (some (.str "ABCDEFGHIJKLMNOPQRSTUVWXYZ" t_GREAT)))
    {t_LONGEST : Tok} (y_LONGEST : PySem.W.nsIn K mainGlobals "LONGEST" = some (some (.int 6 t_LONGEST)))
    {t_MOST_WITHIN : Tok} (y_MOST_WITHIN : PySem.W.nsIn K mainGlobals "MOST_WITHIN" = some (some (.int 3 t_MOST_WITHIN)))
    {t_SMALL : Tok} (y_SMALL : PySem.W.nsIn K mainGlobals "SMALL" = some (some (.str "abcdefghijklmnopqrstuvwxyz" t_SMALL)))
    (z_all : PySem.W.nsIn K mainGlobals "all" = some none)
    (z_int : PySem.W.nsIn K mainGlobals "int" = some none)
    (z_isinstance : PySem.W.nsIn K mainGlobals "isinstance" = some none)
    (z_len : PySem.W.nsIn K mainGlobals "len" = some none)
    (z_list : PySem.W.nsIn K mainGlobals "list" = some none)
    (z_min : PySem.W.nsIn K mainGlobals "min" = some none)
    (z_range : PySem.W.nsIn K mainGlobals "range" = some none)
    (z_repr : PySem.W.nsIn K mainGlobals "repr" = some none)
    (z_str : PySem.W.nsIn K mainGlobals "str" = some none)
    (z_tuple : PySem.W.nsIn K mainGlobals "tuple" = some none)
    (z_zip : PySem.W.nsIn K mainGlobals "zip" = some none)
    : ∃ fd : FuncData, (∀ (s : Shared) (v : Value), BindsTo s fd ⟨[v], []⟩ [("_law_script", v)]) ∧ ∀ base : Heap, K.In base → base.Ns mainGlobals mg → FnG l.prog w K mg base 60 fa fd ["_law_script"] (spOf K 1 lawS) := by
  have e := hfa.symm.trans (PySem.W.mg_of X G a20)
  cases e
  have T : Txt mg := ⟨PySem.W.mg_none_of X G z_all, PySem.W.mg_none_of X G z_int, PySem.W.mg_none_of X G z_isinstance, PySem.W.mg_none_of X G z_len, PySem.W.mg_none_of X G z_list, PySem.W.mg_none_of X G z_min, PySem.W.mg_none_of X G z_range, PySem.W.mg_none_of X G z_repr, PySem.W.mg_none_of X G z_str, PySem.W.mg_none_of X G z_tuple, PySem.W.mg_none_of X G z_zip, ⟨_, PySem.W.mg_of X G y_DEEPEST, ⟨_, rfl⟩⟩, ⟨_, PySem.W.mg_of X G y_GREAT, ⟨_, rfl⟩⟩, ⟨_, PySem.W.mg_of X G y_LONGEST, ⟨_, rfl⟩⟩, ⟨_, PySem.W.mg_of X G y_MOST_WITHIN, ⟨_, rfl⟩⟩, ⟨_, PySem.W.mg_of X G y_SMALL, ⟨_, rfl⟩⟩⟩
  have D : Defs K mg := ⟨⟨⟨_, _, fun_mk (st := s_is_spelt) l0 c0 k0, PySem.W.mg_of X G a0, k0, (fun_mk (st := s_is_spelt) l0 c0 k0).binds (ps := ["thing", "ahead"]) fun _ _ _ _ _ _ us hl => match us, hl with | [_, _], _ => rfl⟩⟩,
    ⟨⟨_, _, fun_mk (st := s_is_name) l1 c1 k1, PySem.W.mg_of X G a1, k1, (fun_mk (st := s_is_name) l1 c1 k1).binds (ps := ["thing"]) fun _ _ _ _ _ _ us hl => match us, hl with | [_], _ => rfl⟩⟩,
    ⟨⟨_, _, fun_mk (st := s_is_unknown) l2 c2 k2, PySem.W.mg_of X G a2, k2, (fun_mk (st := s_is_unknown) l2 c2 k2).binds (ps := ["thing"]) fun _ _ _ _ _ _ us hl => match us, hl with | [_], _ => rfl⟩⟩,
    ⟨⟨_, _, fun_mk (st := s_within) l3 c3 k3, PySem.W.mg_of X G a3, k3, (fun_mk (st := s_within) l3 c3 k3).binds (ps := ["term"]) fun _ _ _ _ _ _ us hl => match us, hl with | [_], _ => rfl⟩⟩,
    ⟨⟨_, _, fun_mk (st := s_show_term) l4 c4 k4, PySem.W.mg_of X G a4, k4, (fun_mk (st := s_show_term) l4 c4 k4).binds (ps := ["term"]) fun _ _ _ _ _ _ us hl => match us, hl with | [_], _ => rfl⟩⟩,
    ⟨⟨_, _, fun_mk (st := s_must) l5 c5 k5, PySem.W.mg_of X G a5, k5, (fun_mk (st := s_must) l5 c5 k5).binds (ps := ["good"]) fun _ _ _ _ _ _ us hl => match us, hl with | [_], _ => rfl⟩⟩,
    ⟨⟨_, _, fun_mk (st := s_word_end) l6 c6 k6, PySem.W.mg_of X G a6, k6, (fun_mk (st := s_word_end) l6 c6 k6).binds (ps := ["text", "start"]) fun _ _ _ _ _ _ us hl => match us, hl with | [_, _], _ => rfl⟩⟩,
    ⟨⟨_, _, fun_mk (st := s_term_from) l7 c7 k7, PySem.W.mg_of X G a7, k7, (fun_mk (st := s_term_from) l7 c7 k7).binds (ps := ["text", "start", "deep"]) fun _ _ _ _ _ _ us hl => match us, hl with | [_, _, _], _ => rfl⟩⟩,
    ⟨⟨_, _, fun_mk (st := s_read_term) l8 c8 k8, PySem.W.mg_of X G a8, k8, (fun_mk (st := s_read_term) l8 c8 k8).binds (ps := ["text"]) fun _ _ _ _ _ _ us hl => match us, hl with | [_], _ => rfl⟩⟩,
    ⟨⟨_, _, fun_mk (st := s_law_deck) l9 c9 k9, PySem.W.mg_of X G a9, k9, (fun_mk (st := s_law_deck) l9 c9 k9).binds (ps := ["_law_cell"]) fun _ _ _ _ _ _ us hl => match us, hl with | [_], _ => rfl⟩⟩,
    ⟨⟨_, _, fun_mk (st := s_law_draw) l10 c10 k10, PySem.W.mg_of X G a10, k10, (fun_mk (st := s_law_draw) l10 c10 k10).binds (ps := ["_law_deck_here", "_law_bound"]) fun _ _ _ _ _ _ us hl => match us, hl with | [_, _], _ => rfl⟩⟩,
    ⟨⟨_, _, fun_mk (st := s_law_pick) l11 c11 k11, PySem.W.mg_of X G a11, k11, (fun_mk (st := s_law_pick) l11 c11 k11).binds (ps := ["_law_deck_here", "_law_some"]) fun _ _ _ _ _ _ us hl => match us, hl with | [_, _], _ => rfl⟩⟩,
    ⟨⟨_, _, fun_mk (st := s_law_spelt) l12 c12 k12, PySem.W.mg_of X G a12, k12, (fun_mk (st := s_law_spelt) l12 c12 k12).binds (ps := ["_law_deck_here", "_law_letters"]) fun _ _ _ _ _ _ us hl => match us, hl with | [_, _], _ => rfl⟩⟩,
    ⟨⟨_, _, fun_mk (st := s_law_unlike) l13 c13 k13, PySem.W.mg_of X G a13, k13, (fun_mk (st := s_law_unlike) l13 c13 k13).binds (ps := ["_law_deck_here", "_law_letters", "_law_many"]) fun _ _ _ _ _ _ us hl => match us, hl with | [_, _, _], _ => rfl⟩⟩,
    ⟨⟨_, _, fun_mk (st := s_law_pool) l14 c14 k14, PySem.W.mg_of X G a14, k14, (fun_mk (st := s_law_pool) l14 c14 k14).binds (ps := ["_law_deck_here"]) fun _ _ _ _ _ _ us hl => match us, hl with | [_], _ => rfl⟩⟩,
    ⟨⟨_, _, fun_mk (st := s_law_term) l15 c15 k15, PySem.W.mg_of X G a15, k15, (fun_mk (st := s_law_term) l15 c15 k15).binds (ps := ["_law_deck_here", "_law_pool_here", "_law_unknowns", "_law_deep", "_law_left"]) fun _ _ _ _ _ _ us hl => match us, hl with | [_, _, _, _, _], _ => rfl⟩⟩,
    ⟨⟨_, _, fun_mk (st := s_law_some_term) l16 c16 k16, PySem.W.mg_of X G a16, k16, (fun_mk (st := s_law_some_term) l16 c16 k16).binds (ps := ["_law_deck_here", "_law_pool_here"]) fun _ _ _ _ _ _ us hl => match us, hl with | [_, _], _ => rfl⟩⟩,
    ⟨⟨_, _, fun_mk (st := s_law_text) l17 c17 k17, PySem.W.mg_of X G a17, k17, (fun_mk (st := s_law_text) l17 c17 k17).binds (ps := ["_law_term_here"]) fun _ _ _ _ _ _ us hl => match us, hl with | [_], _ => rfl⟩⟩,
    ⟨⟨_, _, fun_mk (st := s_law_great_terms) l18 c18 k18, PySem.W.mg_of X G a18, k18, (fun_mk (st := s_law_great_terms) l18 c18 k18).binds (ps := ["_law_deck_here"]) fun _ _ _ _ _ _ us hl => match us, hl with | [_], _ => rfl⟩⟩,
    ⟨⟨_, _, fun_mk (st := s_law_right) l19 c19 k19, PySem.W.mg_of X G a19, k19, (fun_mk (st := s_law_right) l19 c19 k19).binds (ps := ["_law_term_here"]) fun _ _ _ _ _ _ us hl => match us, hl with | [_], _ => rfl⟩⟩⟩
  exact ⟨PySem.W.fnOf "law" "law" (defArgs s_law) (defBody s_law) (defScope s_law) .none kV20 dc20 pm20 an20 cd20 ct20, fun s v => .of_eq rfl, fun base _ _ => main T D (fun_mk (st := s_law) l20 c20 k20) law_true⟩
end K06

open PySem PySem.W PyProof.Rows in
set_option maxRecDepth 100000 in
set_option maxHeartbeats 0 in
theorem PySem.Challenge.cw_endpapers_k06_terms_written_and_read_holds : PySem.Challenge.rw_endpapers_k06_terms_written_and_read.Holds := by
  w_on; o_law; k_head; (case hw => w_witness2)
  k_fill
  refine Pv.walk_ofG (l := PySem.Challenge.rw_endpapers_k06_terms_written_and_read) (k := 60) (x := "_law_script") rfl rfl ⟨rfl, by decide, by decide⟩ (fun w h Y => PySem.W.kIn_of Y) ?F
  case F =>
    intro w mg fa h KX G hmg
    refine' K06.all_mk KX G hmg ?a0 ?l0 ?c0 ?k0 ?a1 ?l1 ?c1 ?k1 ?a2 ?l2 ?c2 ?k2 ?a3 ?l3 ?c3 ?k3 ?a4 ?l4 ?c4 ?k4 ?a5 ?l5 ?c5 ?k5 ?a6 ?l6 ?c6 ?k6 ?a7 ?l7 ?c7 ?k7 ?a8 ?l8 ?c8 ?k8 ?a9 ?l9 ?c9 ?k9 ?a10 ?l10 ?c10 ?k10 ?a11 ?l11 ?c11 ?k11 ?a12 ?l12 ?c12 ?k12 ?a13 ?l13 ?c13 ?k13 ?a14 ?l14 ?c14 ?k14 ?a15 ?l15 ?c15 ?k15 ?a16 ?l16 ?c16 ?k16 ?a17 ?l17 ?c17 ?k17 ?a18 ?l18 ?c18 ?k18 ?a19 ?l19 ?c19 ?k19 ?a20 ?l20 ?c20 ?k20 ?y_DEEPEST ?y_GREAT ?y_LONGEST ?y_MOST_WITHIN ?y_SMALL ?z_all ?z_int ?z_isinstance ?z_len ?z_list ?z_min ?z_range ?z_repr ?z_str ?z_tuple ?z_zip
    (case a0 => k_is)
    (case l0 => k_is)
    (case c0 => k_is)
    (case k0 => k_is)
    (case a1 => k_is)
    (case l1 => k_is)
    (case c1 => k_is)
    (case k1 => k_is)
    (case a2 => k_is)
    (case l2 => k_is)
    (case c2 => k_is)
    (case k2 => k_is)
    (case a3 => k_is)
    (case l3 => k_is)
    (case c3 => k_is)
    (case k3 => k_is)
    (case a4 => k_is)
    (case l4 => k_is)
    (case c4 => k_is)
    (case k4 => k_is)
    (case a5 => k_is)
    (case l5 => k_is)
    (case c5 => k_is)
    (case k5 => k_is)
    (case a6 => k_is)
    (case l6 => k_is)
    (case c6 => k_is)
    (case k6 => k_is)
    (case a7 => k_is)
    (case l7 => k_is)
    (case c7 => k_is)
    (case k7 => k_is)
    (case a8 => k_is)
    (case l8 => k_is)
    (case c8 => k_is)
    (case k8 => k_is)
    (case a9 => k_is)
    (case l9 => k_is)
    (case c9 => k_is)
    (case k9 => k_is)
    (case a10 => k_is)
    (case l10 => k_is)
    (case c10 => k_is)
    (case k10 => k_is)
    (case a11 => k_is)
    (case l11 => k_is)
    (case c11 => k_is)
    (case k11 => k_is)
    (case a12 => k_is)
    (case l12 => k_is)
    (case c12 => k_is)
    (case k12 => k_is)
    (case a13 => k_is)
    (case l13 => k_is)
    (case c13 => k_is)
    (case k13 => k_is)
    (case a14 => k_is)
    (case l14 => k_is)
    (case c14 => k_is)
    (case k14 => k_is)
    (case a15 => k_is)
    (case l15 => k_is)
    (case c15 => k_is)
    (case k15 => k_is)
    (case a16 => k_is)
    (case l16 => k_is)
    (case c16 => k_is)
    (case k16 => k_is)
    (case a17 => k_is)
    (case l17 => k_is)
    (case c17 => k_is)
    (case k17 => k_is)
    (case a18 => k_is)
    (case l18 => k_is)
    (case c18 => k_is)
    (case k18 => k_is)
    (case a19 => k_is)
    (case l19 => k_is)
    (case c19 => k_is)
    (case k19 => k_is)
    (case a20 => k_is)
    (case l20 => k_is)
    (case c20 => k_is)
    (case k20 => k_is)
    (case y_DEEPEST => k_is)
    (case y_GREAT => k_is)
    (case y_LONGEST => k_is)
    (case y_MOST_WITHIN => k_is)
    (case y_SMALL => k_is)
    (case z_all => k_is)
    (case z_int => k_is)
    (case z_isinstance => k_is)
    (case z_len => k_is)
    (case z_list => k_is)
    (case z_min => k_is)
    (case z_range => k_is)
    (case z_repr => k_is)
    (case z_str => k_is)
    (case z_tuple => k_is)
    (case z_zip => k_is)

