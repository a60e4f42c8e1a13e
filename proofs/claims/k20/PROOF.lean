import PyProof.Rows.All
import Wide.All
import OpenK.AllK
import Wide.FinOn
import HandS.Base
import HandS.Call
import HandS.List
import HandS.Comp
import HandS.Exc
import HandS.Words
import HandS.ForMost
import HandS.TupAny
import HandS.TupMul
import HandS.Deep
import HandS.Flow
import HandS.IsInst
import HandS.Wide
import HandS.Iter
import HandS.Zip
import KE.GoesEnum
import HandS.Text
import HandS.Dict
import KE.KUnpackStar
import KE.KDictZip
import HandS.Ends
import HandS.Style
import HandS.TryOnly
import HandS.Set
import HandS.SetFor
import HandS.Strs
import HandS.More
import KE.SortCalls
import HandS.SetBool
import PyProof.StrLawsIn
import HandS.Small
import HandS.BoundDict
import HandS.DictComp
import PyProof.DictUpdate
import HandS.Conv
import KE.KDictPairs
import KE.KDictKeyed
import KE.KDictSum
import HandS.Replace
import KE.KTupSum
import HandS.FStr
import PyProof.StrLawsRepr
import HandS.CallLocal
import HandS.Codes
import HandS.MakeKw
import HandS.OwnEq
import KE.KFmtOwn
import PyProof.InstNe
import PyProof.ReprReads
import PyProof.P3Eq
import PySem.Challenge.RW_endpapers_k20_forms_shown
set_option Elab.async false
set_option linter.all false
set_option maxRecDepth 100000
set_option maxHeartbeats 4000000
namespace Pv
open PySem PySem.Spec L2
def notStar : Expr → Bool
  | .Starred _ _ => false
  | _ => true
def notSlice : Expr → Bool
  | .Slice _ _ _ _ => false
  | _ => true
def notSet : Expr → Bool
  | .Set _ _ _ => false
  | _ => true
def notComp : Expr → Bool
  | .ListComp _ _ _ _ => false
  | .SetComp _ _ _ _ => false
  | .DictComp _ _ _ _ _ => false
  | _ => true
def notTuple : Expr → Bool
  | .Tuple _ _ _ => false
  | _ => true
def notCall : Expr → Bool
  | .Call _ [] _ _ => false
  | _ => true
def plainT : Expr → Bool
  | .UnaryOp _ _ _ => false
  | .BoolOp _ _ _ => false
  | .IfExp _ _ _ _ => false
  | .Compare _ _ _ _ => false
  | _ => true
section
variable {e e2 o b tg : Expr} {es : List Expr} {env : Env} {pos : Pos}
theorem star_cons (h : notStar e = true) : starEach (e :: es) env = (false, eval e env) :: starEach es env := by
  cases e <;> first | rfl | exact absurd h Bool.false_ne_true
theorem star_one (h : notStar e = true) : starEach [e] env = [(false, eval e env)] := star_cons h
theorem star_two (h : notStar e = true) (h2 : notStar e2 = true) : starEach [e, e2] env = [(false, eval e env), (false, eval e2 env)] := by rw [star_cons h, star_one h2]
theorem star_plain : ∀ {es : List Expr}, es.all notStar = true → (backTo pos (starEach es env)).any (·.1) = false
  | [], _ => rfl
  | e :: es, h => by
    simp only [List.all_cons, Bool.and_eq_true] at h
    rw [star_cons h.1]
    show (false || (backTo pos (starEach es env)).any (·.1)) = false
    rw [star_plain h.2]; rfl
theorem star_all : ∀ {es : List Expr}, es.all notStar = true → (backTo pos (starEach es env)).all (fun x => !x.1) = true
  | [], _ => rfl
  | e :: es, h => by
    simp only [List.all_cons, Bool.and_eq_true] at h
    rw [star_cons h.1]
    show (true && (backTo pos (starEach es env)).all (fun x => !x.1)) = true
    rw [star_all h.2]; rfl
theorem star_few (h : es.all notStar = true) (hl : es.length < 30) : ((backTo pos (starEach es env)).all (fun x => !x.1) && (backToKw pos (keywordEach [] env)).all (fun x => x.1.isSome)
      && decide (es.length + ([] : List Keyword).length + (if ([] : List Keyword).isEmpty then 0 else 1) < 30)) = true := by
  rw [star_all h]
  have e1 : (backToKw pos (keywordEach [] env)).all (fun x => x.1.isSome) = true := rfl
  rw [e1]
  show (true && true && decide (es.length + 0 + 0 < 30)) = true
  rw [decide_eq_true (by omega)]; rfl
theorem asg_cons (h : notStar e = true) : (assignEach (e :: es) env).map (·.2) = assign e env :: (assignEach es env).map (·.2) := by
  cases e <;> first | rfl | exact absurd h Bool.false_ne_true
theorem asg_one (h : notStar e = true) : (assignEach [e] env).map (·.2) = [assign e env] := asg_cons h
theorem asg_len : ∀ {es : List Expr}, (assignEach es env).length = es.length
  | [] => rfl
  | e :: es => by
    have h : (assignEach (e :: es) env).length = (assignEach es env).length + 1 := by cases e <;> rfl
    rw [h, asg_len]; rfl
theorem asg_find : ∀ {es : List Expr}, es.all notStar = true → (assignEach es env).findIdx? (·.1) = none
  | [], _ => rfl
  | e :: es, h => by
    simp only [List.all_cons, Bool.and_eq_true] at h
    have h1 : assignEach (e :: es) env = (false, assign e env) :: assignEach es env := by
      have h0 := h.1
      cases e <;> first | rfl | exact absurd h0 Bool.false_ne_true
    rw [h1, List.findIdx?_cons, asg_find h.2]; rfl
theorem swaps_no {t : Option Expr} {line : Nat} (h : notComp e = true) : swapsWith e t line env = pure false := by
  cases e <;> first | rfl | exact absurd h Bool.false_ne_true
theorem swaps_sole {line : Nat} (h : notComp e = true) : swapsWithSole [tg] e line env = pure false := swaps_no h
theorem swst_no (h : notTuple e = true) : swappedStores [tg] e env = pure none := by
  cases e <;> first | (cases tg <;> rfl) | exact absurd h Bool.false_ne_true
theorem ist_no (h : plainT e = true) : ∀ whole, isTrue e env whole = (do let v ← whole; standAt e.pos; holding [v] (truthy v)) := fun whole => by
  cases e <;> first | rfl | exact absurd h Bool.false_ne_true
theorem fold_no (h : notSet e = true) : ∀ x, foldedSetIterable e env x = pure x := fun x => by
  cases e <;> first | rfl | exact absurd h Bool.false_ne_true
theorem mark_no {op : CmpOp} (h : notSet e = true) : behindInMarks op e = false := by
  cases e <;> first | rfl | exact absurd h Bool.false_ne_true
theorem last_no {op op' : CmpOp} (h : notSet e2 = true) : lastMarks [op, op'] [e, e2] = false := mark_no h
theorem pix_no (h : notSlice b = true) : PlainIx b := fun _ _ => by
  cases b <;> first | rfl | exact absurd h Bool.false_ne_true
theorem base_no {f : Str} {whole : Sem Value} (h : notCall o = true) : attributeBase o f env whole = whole := by
  cases o with
  | Call f args kws p => cases args with
    | nil => exact absurd h Bool.false_ne_true
    | cons a as => cases f <;> rfl
  | _ => rfl
theorem asub_no (h : notSlice b = true) : ∀ v, assign (.Subscript o b pos) env v = (do
      let ov ← holding [v] (eval o env)
      let iv ← holding [v, ov] (eval b env)
      standAt pos
      holding [v, ov, iv] (setItem ov iv v)
      release [v, ov, iv] []) := fun v => by
  cases b <;> first | rfl | exact absurd h Bool.false_ne_true
end
end Pv
namespace Pv
open PySem PySem.Spec L2
/-- a value: what never changes stands written out; what may be changed is a number in the store -/
inductive PV where
  | non | bl (b : Bool) | int (i : Int) | str (s : Str) | tup (xs : List PV) | lst (xs : List PV) | fls (xs : List PV) | dk (ks : List Key) (vs : List PV) | ref (n : Nat) | ptp (xs : List PV) | fn (a : Addr) | ins (C : Addr) (ks : List Str) (xs : List PV)
inductive Cell where
  | lst (xs : List PV) | dk (ks : List Key) (vs : List PV) | dt (ks : List (List Key)) (vs : List PV) | ins (C : Addr) (ks : List Str) (xs : List PV) | tb (x : Str) (nm : Nat → Nat → Str) | fdk (o : Obj) (kvs : List (Key × V)) (ks : List Key) (vs : List PV) | fdt (o : Obj) (φ : Heap → Prop) (bs : List Addr) (ks : List (List Key)) | cap (o : Obj) (c : Addr) (q : Str) (vs : List V) (xs : List PV)
abbrev Sto := List Cell
abbrev Envp := List (Option PV)
def LstAt (ro fr : List Addr) (H : Hp) (a : Addr) (vs : List V) : Prop := H a = some (.lst vs) ∧ a ∉ ro ∧ a ∉ fr
def FlsAt (K : PySem.W.Frag) (ro fr : List Addr) (H : Hp) (a : Addr) (vs : List V) : Prop := (Rd H a (.lst vs) ∧ a ∉ ro ∧ a ∉ fr) ∨ SqL K (fun _ => none) a vs
def TupAt (K : PySem.W.Frag) (ro fr : List Addr) (H : Hp) (a : Addr) (vs : List V) : Prop := (Rd H a (.tup vs) ∧ a ∉ ro ∧ a ∉ fr) ∨ SqT K (fun _ => none) a vs
def DctAt (ro fr : List Addr) (H : Hp) (a : Addr) (kvs : List (Key × V)) : Prop := H a = some (.dK kvs) ∧ a ∉ ro ∧ a ∉ fr
/-- a tuple whose object is known to have no dict of its own -/
def PtpAt (ro fr : List Addr) (H : Hp) (a : Addr) (vs : List V) : Prop := (∃ o : Obj, H a = some (.frz o (.tup vs)) ∧ o.dict = none) ∧ a ∉ ro ∧ a ∉ fr
/-- an object of a class, with its fields -/
def InsAt (ro fr : List Addr) (H : Hp) (a C : Addr) (kvs : List (Str × V)) : Prop := (∃ dx, H a = some (.ins C dx kvs)) ∧ a ∉ ro ∧ a ∉ fr
mutual
inductive RepV (K : PySem.W.Frag) (ro fr : List Addr) (H : Hp) : PV → V → Prop
  | non : RepV K ro fr H .non .non
  | bl (b : Bool) : RepV K ro fr H (.bl b) (.bl b)
  | int (i : Int) : RepV K ro fr H (.int i) (.int i)
  | str (s : Str) : RepV K ro fr H (.str s) (.str s)
  | tup {a : Addr} {xs : List PV} {vs : List V} : TupAt K ro fr H a vs → RepVs K ro fr H xs vs → RepV K ro fr H (.tup xs) (.ref a)
  | lst {a : Addr} {xs : List PV} {vs : List V} : LstAt ro fr H a vs → RepVs K ro fr H xs vs → RepV K ro fr H (.lst xs) (.ref a)
  | fls {a : Addr} {xs : List PV} {vs : List V} : FlsAt K ro fr H a vs → RepVs K ro fr H xs vs → RepV K ro fr H (.fls xs) (.ref a)
  | dk {a : Addr} {ks : List Key} {xs : List PV} {kvs : List (Key × V)} : DctAt ro fr H a kvs → kvs.map (·.1) = ks → RepVs K ro fr H xs (kvs.map (·.2)) → RepV K ro fr H (.dk ks xs) (.ref a)
  | ref {a : Addr} {n : Nat} : ro[n]? = some a → RepV K ro fr H (.ref n) (.ref a)
  | ptp {a : Addr} {xs : List PV} {vs : List V} : PtpAt ro fr H a vs → RepVs K ro fr H xs vs → RepV K ro fr H (.ptp xs) (.ref a)
  | fn {a : Addr} : RepV K ro fr H (.fn a) (.ref a)
  | ins {a C : Addr} {ks : List Str} {xs : List PV} {kvs : List (Str × V)} : InsAt ro fr H a C kvs → kvs.map (·.1) = ks → RepVs K ro fr H xs (kvs.map (·.2)) → RepV K ro fr H (.ins C ks xs) (.ref a)
inductive RepVs (K : PySem.W.Frag) (ro fr : List Addr) (H : Hp) : List PV → List V → Prop
  | nil : RepVs K ro fr H [] []
  | cons {x : PV} {xs : List PV} {v : V} {vs : List V} : RepV K ro fr H x v → RepVs K ro fr H xs vs → RepVs K ro fr H (x :: xs) (v :: vs)
end
structure Ext (ro : List Addr) (H : Hp) (ro' : List Addr) (H' : Hp) : Prop where
  pre : ∃ t, ro' = ro ++ t
  old : ∀ a o, H a = some o → a ∉ ro → H' a = some o
  new : ∀ a ∈ ro', a ∈ ro ∨ H a = none
section
variable {K : PySem.W.Frag} {ro ro' ro2 fr : List Addr} {H H' H2 : Hp}
theorem Ext.refl : Ext ro H ro H := ⟨⟨[], by simp⟩, fun _ _ h _ => h, fun _ h => .inl h⟩
theorem Ext.trans (e : Ext ro H ro' H') (f : Ext ro' H' ro2 H2) : Ext ro H ro2 H2 where
  pre := by
    obtain ⟨t, rfl⟩ := e.pre
    obtain ⟨u, rfl⟩ := f.pre
    exact ⟨t ++ u, by simp⟩
  old := fun a o h n => f.old a o (e.old a o h n) fun m => (e.new a m).elim n fun z => by rw [h] at z; cases z
  new := fun a m => by
    rcases f.new a m with z | z
    · exact e.new a z
    · cases q : H a with
      | none => exact .inr rfl
      | some o =>
        by_cases hn : a ∈ ro
        · exact .inl hn
        · rw [e.old a o q hn] at z; cases z
theorem Ext.get (e : Ext ro H ro' H') {n : Nat} {a : Addr} (h : ro[n]? = some a) : ro'[n]? = some a := by
  obtain ⟨t, rfl⟩ := e.pre
  rw [List.getElem?_append_left (List.getElem?_eq_some_iff.mp h).1]
  exact h
theorem Ext.nin (e : Ext ro H ro' H') {a : Addr} {o : HO} (h : H a = some o) (n : a ∉ ro) : a ∉ ro' := fun m => (e.new a m).elim n fun z => by rw [h] at z; cases z
theorem Ext.rd (e : Ext ro H ro' H') {a : Addr} {u : HO} (h : Rd H a u) (n : a ∉ ro) : Rd H' a u ∧ a ∉ ro' := by
  rcases h with h | ⟨o, h⟩
  · exact ⟨.inl (e.old _ _ h n), e.nin h n⟩
  · exact ⟨.inr ⟨o, e.old _ _ h n⟩, e.nin h n⟩
theorem LstAt.ext (e : Ext ro H ro' H') {a : Addr} {vs : List V} (h : LstAt ro fr H a vs) : LstAt ro' fr H' a vs :=
  ⟨e.old _ _ h.1 h.2.1, e.nin h.1 h.2.1, h.2.2⟩
theorem FlsAt.ext (e : Ext ro H ro' H') {a : Addr} {vs : List V} (h : FlsAt K ro fr H a vs) : FlsAt K ro' fr H' a vs := by
  rcases h with ⟨h, n, m⟩ | h
  · exact .inl ⟨(e.rd h n).1, (e.rd h n).2, m⟩
  · exact .inr h
theorem TupAt.ext (e : Ext ro H ro' H') {a : Addr} {vs : List V} (h : TupAt K ro fr H a vs) : TupAt K ro' fr H' a vs := by
  rcases h with ⟨h, n, m⟩ | h
  · exact .inl ⟨(e.rd h n).1, (e.rd h n).2, m⟩
  · exact .inr h
theorem DctAt.ext (e : Ext ro H ro' H') {a : Addr} {vs : List (Key × V)} (h : DctAt ro fr H a vs) : DctAt ro' fr H' a vs :=
  ⟨e.old _ _ h.1 h.2.1, e.nin h.1 h.2.1, h.2.2⟩
theorem PtpAt.ext (e : Ext ro H ro' H') {a : Addr} {vs : List V} (h : PtpAt ro fr H a vs) : PtpAt ro' fr H' a vs := by
  obtain ⟨⟨o, h, hd⟩, n, m⟩ := h
  exact ⟨⟨o, e.old _ _ h n, hd⟩, e.nin h n, m⟩
theorem InsAt.ext (e : Ext ro H ro' H') {a C : Addr} {vs : List (Str × V)} (h : InsAt ro fr H a C vs) : InsAt ro' fr H' a C vs := by
  obtain ⟨⟨o, h⟩, n, m⟩ := h
  exact ⟨⟨o, e.old _ _ h n⟩, e.nin h n, m⟩
theorem PtpAt.sq {a : Addr} {vs : List V} (h : PtpAt ro fr H a vs) : SqT K H a vs := by
  obtain ⟨⟨o, h, _⟩, _⟩ := h
  exact .inl (.inr ⟨o, h⟩)
theorem sqL_none {a : Addr} {vs : List V} (h : SqL K (fun _ => none) a vs) : SqL K H a vs := by
  rcases h with (h | ⟨o, h⟩) | h
  · cases h
  · cases h
  · exact .inr h
theorem sqT_none {a : Addr} {vs : List V} (h : SqT K (fun _ => none) a vs) : SqT K H a vs := by
  rcases h with (h | ⟨o, h⟩) | h
  · cases h
  · cases h
  · exact .inr h
theorem LstAt.sq {a : Addr} {vs : List V} (h : LstAt ro fr H a vs) : SqL K H a vs := SqL.of h.1
theorem FlsAt.sq {a : Addr} {vs : List V} (h : FlsAt K ro fr H a vs) : SqL K H a vs := by
  rcases h with ⟨h, _⟩ | h
  · exact .inl h
  · exact sqL_none h
theorem TupAt.sq {a : Addr} {vs : List V} (h : TupAt K ro fr H a vs) : SqT K H a vs := by
  rcases h with ⟨h, _⟩ | h
  · exact .inl h
  · exact sqT_none h
end
section
variable {K : PySem.W.Frag} {ro ro' fr fr' : List Addr} {H H' : Hp}
mutual
/-- how a value's standing is carried over: its objects stand, its references too -/
theorem RepV.imp (hl : ∀ a vs, LstAt ro fr H a vs → LstAt ro' fr' H' a vs) (hf : ∀ a vs, FlsAt K ro fr H a vs → FlsAt K ro' fr' H' a vs) (ht : ∀ a vs, TupAt K ro fr H a vs → TupAt K ro' fr' H' a vs) (hd : ∀ a vs, DctAt ro fr H a vs → DctAt ro' fr' H' a vs) (hp : ∀ a vs, PtpAt ro fr H a vs → PtpAt ro' fr' H' a vs) (hi : ∀ a C vs, InsAt ro fr H a C vs → InsAt ro' fr' H' a C vs)
    (hr : ∀ (n : Nat) (a : Addr), ro[n]? = some a → ro'[n]? = some a) : ∀ (x : PV) (v : V), RepV K ro fr H x v → RepV K ro' fr' H' x v
  | .non, _, h => by cases h; exact .non
  | .bl b, _, h => by cases h; exact .bl b
  | .int i, _, h => by cases h; exact .int i
  | .str s, _, h => by cases h; exact .str s
  | .tup xs, _, h => by
    cases h with
    | tup h1 h2 => exact .tup (ht _ _ h1) (RepVs.imp hl hf ht hd hp hi hr xs _ h2)
  | .lst xs, _, h => by
    cases h with
    | lst h1 h2 => exact .lst (hl _ _ h1) (RepVs.imp hl hf ht hd hp hi hr xs _ h2)
  | .fls xs, _, h => by
    cases h with
    | fls h1 h2 => exact .fls (hf _ _ h1) (RepVs.imp hl hf ht hd hp hi hr xs _ h2)
  | .dk ks xs, _, h => by
    cases h with
    | dk h1 h2 h3 => exact .dk (hd _ _ h1) h2 (RepVs.imp hl hf ht hd hp hi hr xs _ h3)
  | .ref n, _, h => by
    cases h with
    | ref h1 => exact .ref (hr _ _ h1)
  | .ptp xs, _, h => by
    cases h with
    | ptp h1 h2 => exact .ptp (hp _ _ h1) (RepVs.imp hl hf ht hd hp hi hr xs _ h2)
  | .fn a, _, h => by cases h; exact .fn
  | .ins C ks xs, _, h => by
    cases h with
    | ins h1 h2 h3 => exact .ins (hi _ _ _ h1) h2 (RepVs.imp hl hf ht hd hp hi hr xs _ h3)
theorem RepVs.imp (hl : ∀ a vs, LstAt ro fr H a vs → LstAt ro' fr' H' a vs) (hf : ∀ a vs, FlsAt K ro fr H a vs → FlsAt K ro' fr' H' a vs) (ht : ∀ a vs, TupAt K ro fr H a vs → TupAt K ro' fr' H' a vs) (hd : ∀ a vs, DctAt ro fr H a vs → DctAt ro' fr' H' a vs) (hp : ∀ a vs, PtpAt ro fr H a vs → PtpAt ro' fr' H' a vs) (hi : ∀ a C vs, InsAt ro fr H a C vs → InsAt ro' fr' H' a C vs)
    (hr : ∀ (n : Nat) (a : Addr), ro[n]? = some a → ro'[n]? = some a) : ∀ (xs : List PV) (vs : List V), RepVs K ro fr H xs vs → RepVs K ro' fr' H' xs vs
  | [], _, h => by cases h; exact .nil
  | x :: xs, _, h => by
    cases h with
    | cons h1 h2 => exact .cons (RepV.imp hl hf ht hd hp hi hr x _ h1) (RepVs.imp hl hf ht hd hp hi hr xs _ h2)
end
theorem RepV.ext (e : Ext ro H ro' H') {x : PV} {v : V} (h : RepV K ro fr H x v) : RepV K ro' fr H' x v :=
  RepV.imp (fun _ _ => LstAt.ext e) (fun _ _ => FlsAt.ext e) (fun _ _ => TupAt.ext e) (fun _ _ => DctAt.ext e) (fun _ _ => PtpAt.ext e) (fun _ _ _ => InsAt.ext e) (fun _ _ => e.get) x v h
theorem RepVs.ext (e : Ext ro H ro' H') {x : List PV} {v : List V} (h : RepVs K ro fr H x v) : RepVs K ro' fr H' x v :=
  RepVs.imp (fun _ _ => LstAt.ext e) (fun _ _ => FlsAt.ext e) (fun _ _ => TupAt.ext e) (fun _ _ => DctAt.ext e) (fun _ _ => PtpAt.ext e) (fun _ _ _ => InsAt.ext e) (fun _ _ => e.get) x v h
theorem RepVs.length {xs : List PV} {vs : List V} (h : RepVs K ro fr H xs vs) : xs.length = vs.length := by
  induction xs generalizing vs with
  | nil => cases h; rfl
  | cons x xs ih =>
    cases h with
    | cons h1 h2 => simp [ih h2]
theorem RepVs.get {xs : List PV} {vs : List V} (h : RepVs K ro fr H xs vs) {i : Nat} {x : PV} (e : xs[i]? = some x) : ∃ v, vs[i]? = some v ∧ RepV K ro fr H x v := by
  induction xs generalizing vs i with
  | nil => simp at e
  | cons y ys ih =>
    cases h with
    | cons h1 h2 =>
      cases i with
      | zero => simp at e; subst e; exact ⟨_, by simp, h1⟩
      | succ i =>
        obtain ⟨v, q1, q2⟩ := ih h2 (by simpa using e)
        exact ⟨v, by simpa using q1, q2⟩
theorem RepVs.append {xs ys : List PV} {vs us : List V} (h : RepVs K ro fr H xs vs) (g : RepVs K ro fr H ys us) : RepVs K ro fr H (xs ++ ys) (vs ++ us) := by
  induction xs generalizing vs with
  | nil => cases h; exact g
  | cons x xs ih =>
    cases h with
    | cons h1 h2 => exact .cons h1 (ih h2)
theorem RepVs.take {xs : List PV} {vs : List V} (n : Nat) (h : RepVs K ro fr H xs vs) : RepVs K ro fr H (xs.take n) (vs.take n) := by
  induction xs generalizing vs n with
  | nil => cases h; simp; exact .nil
  | cons x xs ih =>
    cases h with
    | cons h1 h2 =>
      cases n with
      | zero => exact .nil
      | succ n => exact .cons h1 (ih n h2)
theorem RepVs.drop {xs : List PV} {vs : List V} (n : Nat) (h : RepVs K ro fr H xs vs) : RepVs K ro fr H (xs.drop n) (vs.drop n) := by
  induction xs generalizing vs n with
  | nil => cases h; simp; exact .nil
  | cons x xs ih =>
    cases n with
    | zero => exact h
    | succ n =>
      cases h with
      | cons h1 h2 => exact ih n h2
theorem RepVs.reverse {xs : List PV} {vs : List V} (h : RepVs K ro fr H xs vs) : RepVs K ro fr H xs.reverse vs.reverse := by
  induction xs generalizing vs with
  | nil => cases h; exact .nil
  | cons x xs ih =>
    cases h with
    | cons h1 h2 => rw [List.reverse_cons, List.reverse_cons]; exact (ih h2).append (.cons h1 .nil)
theorem RepVs.dropLast {xs : List PV} {vs : List V} (h : RepVs K ro fr H xs vs) : RepVs K ro fr H xs.dropLast vs.dropLast := by
  rw [List.dropLast_eq_take, List.dropLast_eq_take, h.length]
  exact h.take _
theorem RepVs.set {xs : List PV} {vs : List V} {x : PV} {v : V} (i : Nat) (h : RepVs K ro fr H xs vs) (g : RepV K ro fr H x v) : RepVs K ro fr H (xs.set i x) (vs.set i v) := by
  induction xs generalizing vs i with
  | nil => cases h; exact .nil
  | cons y ys ih =>
    cases h with
    | cons h1 h2 =>
      cases i with
      | zero => exact .cons g h2
      | succ i => exact .cons h1 (ih i h2)
end
def kPV : Key → PV
  | .inl i => .int i
  | .inr s => .str s
def kTup (k : List Key) : PV := .tup (k.map kPV)
/-- at a lies a dict with these keys' objects, in order -/
def KeysAt (h : Heap) (a : Addr) (bs : List Addr) : Prop := ∃ o es ep, h.get? a = some o ∧ o.ExactDict ∧ o.data = .dict es ep ∧ es.toList.map (·.key) = bs.map Value.ref
/-- the code object at c is known by its name -/
def CodX (c : Addr) (q : Str) : HO := .ext fun h => ∃ (oc : Obj) (vs : Array Value) (t : Tok), h.get? c = some oc ∧ oc.data = .fields vs ∧ vs[1]? = some (.str q t)
/-- a cell of the store lies at a -/
def RepC (K : PySem.W.Frag) (ro fr : List Addr) (H : Hp) : Cell → Addr → Prop
  | .lst xs, a => ∃ vs, H a = some (.lst vs) ∧ RepVs K ro fr H xs vs
  | .dk ks xs, a => ∃ kvs, H a = some (.dK kvs) ∧ kvs.map (·.1) = ks ∧ RepVs K ro fr H xs (kvs.map (·.2))
  | .dt ks _, a => ∃ φ bs, H a = some (.ext φ) ∧ ((∀ h, φ h → KeysAt h a bs) ∧ a ≠ sysModules ∧ ks.length ≤ sizeLine) ∧ RepVs K ro fr H (ks.map kTup) (bs.map V.ref)
  | .ins C ks xs, a => ∃ dx kvs, H a = some (.ins C dx kvs) ∧ kvs.map (·.1) = ks ∧ RepVs K ro fr H xs (kvs.map (·.2))
  | .fdt o φ bs ks, a => (H a = some (.frz o (.ext φ)) ∧ a ≠ sysModules ∧ o.ExactDict ∧ ∃ es ep, o.data = .dict es ep ∧ es.toList.map (·.key) = bs.map Value.ref) ∧ RepVs K ro fr H (ks.map kTup) (bs.map V.ref)
  | .fdk o kvs ks xs, a => H a = some (.frz o (.dK kvs)) ∧ kvs.map (·.1) = ks ∧ RepVs K ro fr H xs (kvs.map (·.2))
  | .tb x q, a => (∃ c, PySem.W.tabIn K x = some (c, a)) ∧ ∃ ps : Array Value, H a = some (.tbl ps) ∧ TriplesOk ps.toList ∧ ∀ (pos : Pos) (cv : Value), codeAmong pos ps.toList = some cv → ∃ c, cv = .ref c ∧ H c = some (CodX c (q pos.line pos.col)) ∧ c ∉ ro ∧ c ∉ fr
  | .cap o c q vs xs, a => (H a = some (.frz o (.ext fun _ => True)) ∧ H c = some (CodX c q) ∧ c ∉ ro ∧ c ∉ fr) ∧ RepVs K ro fr H xs vs
structure RepS (K : PySem.W.Frag) (ro fr : List Addr) (H : Hp) (st : Sto) : Prop where
  len : ro.length = st.length
  nd : ro.Nodup
  dis : ∀ a ∈ ro, a ∉ fr
  at_ : ∀ (n : Nat) c a, st[n]? = some c → ro[n]? = some a → RepC K ro fr H c a
  frT : ∀ a ∈ fr, ∃ o, H a = some o
def RepEnv (K : PySem.W.Frag) (ro fr : List Addr) (H : Hp) (env : Envp) (σ : St) : Prop := env.length = σ.length ∧ ∀ (i : Nat) x, env[i]? = some (some x) → ∃ v, σ[i]? = some (some v) ∧ RepV K ro fr H x v
section
variable {K : PySem.W.Frag} {ro ro' fr : List Addr} {H H' : Hp} {st : Sto} {env : Envp} {σ : St}
theorem RepEnv.ext (e : Ext ro H ro' H') (h : RepEnv K ro fr H env σ) : RepEnv K ro' fr H' env σ :=
  ⟨h.1, fun i x q => let ⟨v, h1, h2⟩ := h.2 i x q; ⟨v, h1, h2.ext e⟩⟩
theorem RepC.some {c : Cell} {a : Addr} (h : RepC K ro fr H c a) : ∃ o, H a = some o := by
  cases c with
  | lst xs => obtain ⟨vs, h, _⟩ := h; exact ⟨_, h⟩
  | dk ks xs => obtain ⟨vs, h, _⟩ := h; exact ⟨_, h⟩
  | dt ks xs => obtain ⟨φ, bs, h, _⟩ := h; exact ⟨_, h⟩
  | ins C ks xs => obtain ⟨dx, kvs, h, _⟩ := h; exact ⟨_, h⟩
  | fdk o kvs ks xs => exact ⟨_, h.1⟩
  | fdt o φ bs ks => obtain ⟨⟨h, _⟩, _⟩ := h; exact ⟨_, h⟩
  | tb x q => obtain ⟨_, ps, h, _⟩ := h; exact ⟨_, h⟩
  | cap o c q vs xs => exact ⟨_, h.1.1⟩
theorem RepC.ext (e : Ext ro H ro' H') {c : Cell} {a : Addr} (h : RepC K ro fr H c a) (he : H' a = H a) : RepC K ro' fr H' c a := by
  cases c with
  | lst xs => obtain ⟨vs, h, g⟩ := h; exact ⟨vs, he.trans h, g.ext e⟩
  | dk ks xs => obtain ⟨vs, h, g, k⟩ := h; exact ⟨vs, he.trans h, g, k.ext e⟩
  | dt ks xs => obtain ⟨φ, bs, h, g, k⟩ := h; exact ⟨φ, bs, he.trans h, g, k.ext e⟩
  | ins C ks xs => obtain ⟨dx, kvs, h, g, k⟩ := h; exact ⟨dx, kvs, he.trans h, g, k.ext e⟩
  | fdk o kvs ks xs => obtain ⟨h, g, k⟩ := h; exact ⟨he.trans h, g, k.ext e⟩
  | fdt o φ bs ks => obtain ⟨⟨h, g⟩, k⟩ := h; exact ⟨⟨he.trans h, g⟩, k.ext e⟩
  | tb x q =>
    obtain ⟨hc, ps, h, g, k⟩ := h
    refine ⟨hc, ps, he.trans h, g, fun pos cv hv => ?_⟩
    obtain ⟨c, e1, e2, e3, e4⟩ := k pos cv hv
    refine ⟨c, e1, e.old _ _ e2 e3, fun m => ?_, e4⟩
    rcases e.new c m with m | m
    · exact e3 m
    · rw [m] at e2; cases e2
  | cap o c q vs xs =>
    obtain ⟨⟨h, e2, e3, e4⟩, k⟩ := h
    refine ⟨⟨he.trans h, e.old _ _ e2 e3, fun m => ?_, e4⟩, k.ext e⟩
    rcases e.new c m with m | m
    · exact e3 m
    · rw [m] at e2; cases e2
theorem RepS.addr (S : RepS K ro fr H st) {n : Nat} {c : Cell} (h : st[n]? = some c) : ∃ a, ro[n]? = some a ∧ RepC K ro fr H c a := by
  have hl := S.len
  have hi := (List.getElem?_eq_some_iff.mp h).1
  have hx : ro[n]? = some (ro[n]'(by omega)) := List.getElem?_eq_getElem _
  exact ⟨_, hx, S.at_ n c _ h hx⟩
theorem RepS.tracked (S : RepS K ro fr H st) {a : Addr} (h : a ∈ ro) : ∃ o, H a = some o := by
  obtain ⟨n, hn⟩ := List.getElem?_of_mem h
  have hl := S.len
  have hi := (List.getElem?_eq_some_iff.mp hn).1
  have hx : st[n]? = some (st[n]'(by omega)) := List.getElem?_eq_getElem _
  exact (S.at_ n _ a hx hn).some
theorem RepS.fresh (S : RepS K ro fr H st) {p : Addr} (h : H p = none) : p ∉ ro ∧ p ∉ fr := by
  refine ⟨fun m => ?_, fun m => ?_⟩
  · obtain ⟨o, e⟩ := S.tracked m; rw [h] at e; cases e
  · obtain ⟨o, e⟩ := S.frT p m; rw [h] at e; cases e
/-- a new object that never changes -/
theorem ext_new {p : Addr} {o : HO} (h : H p = none) : Ext ro H ro (upd H p o) :=
  ⟨⟨[], by simp⟩, fun a o' e _ => by rw [upd_ne (ne_of_none e h)]; exact e, fun _ m => .inl m⟩
theorem RepS.new (S : RepS K ro fr H st) {p : Addr} {o : HO} (h : H p = none) : RepS K ro fr (upd H p o) st where
  len := S.len
  nd := S.nd
  dis := S.dis
  at_ := fun n c a h1 h2 => by
    have q := S.at_ n c a h1 h2
    obtain ⟨u, hu⟩ := q.some
    exact q.ext (ext_new h) (by rw [upd_ne (ne_of_none hu h)])
  frT := fun a m => by
    obtain ⟨u, hu⟩ := S.frT a m
    exact ⟨u, by rw [upd_ne (ne_of_none hu h)]; exact hu⟩
/-- a new cell -/
theorem ext_cell {p : Addr} {o : HO} (h : H p = none) : Ext ro H (ro ++ [p]) (upd H p o) :=
  ⟨⟨[p], rfl⟩, fun a o' e _ => by rw [upd_ne (ne_of_none e h)]; exact e, fun a m => by
    rcases List.mem_append.mp m with m | m
    · exact .inl m
    · rw [List.mem_singleton] at m; subst m; exact .inr h⟩
theorem RepS.cell (S : RepS K ro fr H st) {p : Addr} {o : HO} {c : Cell} (h : H p = none) (hc : RepC K (ro ++ [p]) fr (upd H p o) c p) : RepS K (ro ++ [p]) fr (upd H p o) (st ++ [c]) where
  len := by simp [S.len]
  nd := by
    rw [List.nodup_append]
    refine ⟨S.nd, by simp, fun a ha b hb => ?_⟩
    rw [List.mem_singleton] at hb; subst hb
    intro e; subst e; exact (S.fresh h).1 ha
  dis := fun a m => by
    rcases List.mem_append.mp m with m | m
    · exact S.dis a m
    · rw [List.mem_singleton] at m; subst m; exact (S.fresh h).2
  at_ := fun n c' a h1 h2 => by
    have hl := S.len
    by_cases hn : n < st.length
    · rw [List.getElem?_append_left hn] at h1
      rw [List.getElem?_append_left (by omega)] at h2
      have q := S.at_ n c' a h1 h2
      obtain ⟨u, hu⟩ := q.some
      exact q.ext (ext_cell h) (by rw [upd_ne (ne_of_none hu h)])
    · rw [List.getElem?_append_right (by omega)] at h1 h2
      have e : n - st.length = 0 := by
        have := (List.getElem?_eq_some_iff.mp h1).1
        simp at this; omega
      have e2 : n - ro.length = 0 := by omega
      rw [e] at h1; rw [e2] at h2
      simp at h1 h2; subst h1; subst h2
      exact hc
  frT := fun a m => by
    obtain ⟨u, hu⟩ := S.frT a m
    exact ⟨u, by rw [upd_ne (ne_of_none hu h)]; exact hu⟩
/-- a cell is changed -/
theorem ext_set {a : Addr} {o : HO} (h : a ∈ ro) : Ext ro H ro (upd H a o) :=
  ⟨⟨[], by simp⟩, fun b o' e n => by rw [upd_ne (show b ≠ a from fun z => n (by rw [z]; exact h))]; exact e, fun _ m => .inl m⟩
theorem RepS.set (S : RepS K ro fr H st) {n : Nat} {a : Addr} {o : HO} {c : Cell} (hn : ro[n]? = some a) (hc : RepC K ro fr (upd H a o) c a) : RepS K ro fr (upd H a o) (st.set n c) where
  len := by simp [S.len]
  nd := S.nd
  dis := S.dis
  at_ := fun m c' b h1 h2 => by
    have hl := S.len
    by_cases e : m = n
    · subst e
      rw [hn] at h2; cases h2
      have hi := (List.getElem?_eq_some_iff.mp hn).1
      rw [List.getElem?_set_self (by omega)] at h1
      cases h1; exact hc
    · rw [List.getElem?_set_ne (Ne.symm e)] at h1
      have q := S.at_ m c' b h1 h2
      refine q.ext (ext_set (List.mem_of_getElem? hn)) ?_
      rw [upd_ne]
      intro z; subst z
      have h3 := (List.getElem?_eq_some_iff.mp hn).1
      have h4 := (List.getElem?_eq_some_iff.mp h2).1
      exact e ((List.getElem?_inj h4 S.nd).mp (h2.trans hn.symm))
  frT := fun b m => by
    obtain ⟨u, hu⟩ := S.frT b m
    by_cases e : b = a
    · subst e; exact ⟨_, upd_same⟩
    · exact ⟨u, by rw [upd_ne e]; exact hu⟩
end
end Pv
namespace Pv
open PySem PySem.Spec L2
abbrev WE := Envp → Sto → (PV → Sto → Prop) → Prop
abbrev WA := Envp → Sto → (List PV → Sto → Prop) → Prop
abbrev WT := Envp → Sto → (Bool → Sto → Prop) → Prop
abbrev WG := PV → Envp → Sto → (Envp → Sto → Prop) → Prop
structure EndsP where
  nx : Envp → Sto → Prop
  rt : PV → Sto → Prop
  bk : Envp → Sto → Prop := fun _ _ => False
  ct : Envp → Sto → Prop := fun _ _ => False
  xx : Value → Envp → Sto → Prop := fun _ _ _ => False
abbrev WS := EndsP → Envp → Sto → Prop
/-- the weakest readings -/
def tW (X : Cx) (e : Expr) : TE := fun σ H Q => ∀ pins s, Inv X pins σ H s → wpAny (model X.prog X.w) X.A (eval e X.env) (EP X pins σ Q) X.xe s
def tWA (X : Cx) (es : List Expr) : TA := fun σ H Q => ∀ (pos : Pos) pins s, Inv X pins σ H s → wpAny (model X.prog X.w) X.A (spliced (backTo pos (starEach es X.env))) (AP X pins σ Q) X.xe s
def tWT (X : Cx) (e : Expr) : TT := fun σ H Q => ∀ pins s, Inv X pins σ H s → wpAny (model X.prog X.w) X.A (isTrue e X.env (eval e X.env)) (TP X pins σ Q) X.xe s
def tWW (X : Cx) (e : Expr) : TT := fun σ H Q => ∀ whole pins s, Inv X pins σ H s → wpAny (model X.prog X.w) X.A (isTrue e X.env whole) (TP X pins σ Q) X.xe s
def tWS (X : Cx) (st : Stmt) : TS := fun D σ H => ∀ pins s, Inv X pins σ H s → wpAny (model X.prog X.w) X.A (exec st X.env) (SP X pins D) X.xe s
def tWSs (X : Cx) (st : List Stmt) : TS := fun D σ H => ∀ pins s, Inv X pins σ H s → wpAny (model X.prog X.w) X.A (execs st X.env) (SP X pins D) X.xe s
def tWG (X : Cx) (tg : Expr) : TG := fun v σ H Q => ∀ pins s u, Inv X pins σ H s → RelV v u → wpAny (model X.prog X.w) X.A (assign tg X.env u) (fun _ s' => ∃ σ' H', Inv X pins σ' H' s' ∧ Q σ' H') X.xe s
def tWGs (X : Cx) (ts : List Expr) : TGs := fun vs σ H Q => ∀ pins s us, Inv X pins σ H s → Vals vs us → wpAny (model X.prog X.w) X.A (assignInOrder ((assignEach ts X.env).map (·.2)) us) (fun _ s' => ∃ σ' H', Inv X pins σ' H' s' ∧ Q σ' H') X.xe s
def tWI (X : Cx) (tg iter : Expr) : TI := fun σ H R => ∀ pins s, Inv X pins σ H s → wpAny (model X.prog X.w) X.A (eval iter X.env) (fun v s1 => wpAny (model X.prog X.w) X.A (pyIter v) (PIE X pins σ tg R) X.xe s1) X.xe s
def rW (X : Cx) (f : Value → Value → Sem Value) : R2 := fun x y H Q => ∀ pins s σ v u, Inv X pins σ H s → RelV x v → RelV y u → wpAny (model X.prog X.w) X.A (f v u) (EP X pins σ Q) X.xe s
theorem pe_W (X : Cx) (e : Expr) : PE X e (tW X e) := ⟨fun pins s _ _ _ I h => h pins s I⟩
theorem pa_W (X : Cx) (e : List Expr) : PA X e (tWA X e) := ⟨fun pos pins s _ _ _ I h => h pos pins s I⟩
theorem pt_W (X : Cx) (e : Expr) : PT X e (tWT X e) := ⟨fun pins s _ _ _ I h => h pins s I⟩
theorem pw_W (X : Cx) (e : Expr) : PW X e (tWW X e) := ⟨fun wh pins s _ _ _ I h => h wh pins s I⟩
theorem ps_W (X : Cx) (e : Stmt) : PS X e (tWS X e) := ⟨fun pins s _ _ _ I h => h pins s I⟩
theorem pss_W (X : Cx) (e : List Stmt) : PSs X e (tWSs X e) := ⟨fun pins s _ _ _ I h => h pins s I⟩
theorem pg_W (X : Cx) (e : Expr) : PG X e (tWG X e) := ⟨fun pins s _ _ _ u _ I r h => h pins s u I r⟩
theorem pgs_W (X : Cx) (e : List Expr) : PGs X e (tWGs X e) := ⟨fun pins s _ _ _ u _ I r h => h pins s u I r⟩
theorem pi_W (X : Cx) (tg e : Expr) : PI X tg e (tWI X tg e) := ⟨fun pins s _ _ _ I h => h pins s I⟩
theorem op_W (X : Cx) (f : Value → Value → Sem Value) : OpR X f (rW X f) := fun pins s σ H x y v u Q I r1 r2 h => h pins s σ v u I r1 r2
section
variable {X : Cx} {e iter tg : Expr} {es : List Expr} {st : Stmt} {sts : List Stmt} {σ : L2.St} {H : Hp}
theorem toW {t : TE} {Q : VK} (p : PE X e t) (h : t σ H Q) : tW X e σ H Q := fun pins s I => p.run pins s σ H Q I h
theorem toWA {t : TA} {Q} (p : PA X es t) (h : t σ H Q) : tWA X es σ H Q := fun pos pins s I => p.run pos pins s σ H Q I h
theorem toWT {t : TT} {Q} (p : PT X e t) (h : t σ H Q) : tWT X e σ H Q := fun pins s I => p.run pins s σ H Q I h
theorem toWW {t : TT} {Q} (p : PW X e t) (h : t σ H Q) : tWW X e σ H Q := fun wh pins s I => p.run wh pins s σ H Q I h
theorem toWS {t : TS} {D} (p : PS X st t) (h : t D σ H) : tWS X st D σ H := fun pins s I => p.run pins s σ H D I h
theorem toWSs {t : TS} {D} (p : PSs X sts t) (h : t D σ H) : tWSs X sts D σ H := fun pins s I => p.run pins s σ H D I h
theorem toWG {t : TG} {v Q} (p : PG X e t) (h : t v σ H Q) : tWG X e v σ H Q := fun pins s u I r => p.run pins s σ H v u Q I r h
theorem toWGs {t : TGs} {v Q} (p : PGs X es t) (h : t v σ H Q) : tWGs X es v σ H Q := fun pins s u I r => p.run pins s σ H v u Q I r h
theorem toWI {t : TI} {Q} (p : PI X tg iter t) (h : t σ H Q) : tWI X tg iter σ H Q := fun pins s I => p.run pins s σ H Q I h
theorem toRW {f : Value → Value → Sem Value} {r : R2} {x y : V} {Q : VK} (p : OpR X f r) (h : r x y H Q) : rW X f x y H Q := fun pins s σ v u I r1 r2 => p pins s σ H x y v u Q I r1 r2 h
theorem EP.mono {pins : List (Addr × Obj)} {Q Q' : VK} (hQ : ∀ v H, Q v H → Q' v H) {u s} (h : EP X pins σ Q u s) : EP X pins σ Q' u s := let ⟨v, H', I, r, q⟩ := h; ⟨v, H', I, r, hQ _ _ q⟩
theorem tW.mono {Q Q' : VK} (h : tW X e σ H Q) (hQ : ∀ v H, Q v H → Q' v H) : tW X e σ H Q' := fun pins s I => thn (h pins s I) fun _ _ => EP.mono hQ
theorem tWA.mono {Q Q' : List V → Hp → Prop} (h : tWA X es σ H Q) (hQ : ∀ v H, Q v H → Q' v H) : tWA X es σ H Q' := fun pos pins s I => thn (h pos pins s I) fun _ _ ⟨v, H', I, r, q⟩ => ⟨v, H', I, r, hQ _ _ q⟩
theorem tWT.mono {Q Q' : Bool → Hp → Prop} (h : tWT X e σ H Q) (hQ : ∀ v H, Q v H → Q' v H) : tWT X e σ H Q' := fun pins s I => thn (h pins s I) fun _ _ ⟨H', I, q⟩ => ⟨H', I, hQ _ _ q⟩
theorem tWW.mono {Q Q' : Bool → Hp → Prop} (h : tWW X e σ H Q) (hQ : ∀ v H, Q v H → Q' v H) : tWW X e σ H Q' := fun wh pins s I => thn (h wh pins s I) fun _ _ ⟨H', I, q⟩ => ⟨H', I, hQ _ _ q⟩
theorem SP.mono {pins : List (Addr × Obj)} {D D' : Ends} (h1 : ∀ σ H, D.nx σ H → D'.nx σ H) (h2 : ∀ v H, D.rt v H → D'.rt v H) (h3 : ∀ σ H, D.bk σ H → D'.bk σ H) (h4 : ∀ σ H, D.ct σ H → D'.ct σ H) {f : Flow} {s : Shared} (h : SP X pins D f s) : SP X pins D' f s := by
  cases f with
  | next => obtain ⟨a, b, c, d⟩ := h; exact ⟨a, b, c, h1 _ _ d⟩
  | brk => obtain ⟨a, b, c, d⟩ := h; exact ⟨a, b, c, h3 _ _ d⟩
  | cont => obtain ⟨a, b, c, d⟩ := h; exact ⟨a, b, c, h4 _ _ d⟩
  | ret u => obtain ⟨a, b, c, d, e, g⟩ := h; exact ⟨a, b, c, d, e, h2 _ _ g⟩
theorem tWS.mono {D D' : Ends} (h : tWS X st D σ H) (h1 : ∀ σ H, D.nx σ H → D'.nx σ H) (h2 : ∀ v H, D.rt v H → D'.rt v H) (h3 : ∀ σ H, D.bk σ H → D'.bk σ H) (h4 : ∀ σ H, D.ct σ H → D'.ct σ H) : tWS X st D' σ H := fun pins s I => thn (h pins s I) fun _ _ => SP.mono h1 h2 h3 h4
theorem tWSs.mono {D D' : Ends} (h : tWSs X sts D σ H) (h1 : ∀ σ H, D.nx σ H → D'.nx σ H) (h2 : ∀ v H, D.rt v H → D'.rt v H) (h3 : ∀ σ H, D.bk σ H → D'.bk σ H) (h4 : ∀ σ H, D.ct σ H → D'.ct σ H) : tWSs X sts D' σ H := fun pins s I => thn (h pins s I) fun _ _ => SP.mono h1 h2 h3 h4
theorem tWG.mono {v} {Q Q' : L2.St → Hp → Prop} (h : tWG X e v σ H Q) (hQ : ∀ v H, Q v H → Q' v H) : tWG X e v σ H Q' := fun pins s u I r => thn (h pins s u I r) fun _ _ ⟨v, H', I, q⟩ => ⟨v, H', I, hQ _ _ q⟩
theorem tWGs.mono {v} {Q Q' : L2.St → Hp → Prop} (h : tWGs X es v σ H Q) (hQ : ∀ v H, Q v H → Q' v H) : tWGs X es v σ H Q' := fun pins s u I r => thn (h pins s u I r) fun _ _ ⟨v, H', I, q⟩ => ⟨v, H', I, hQ _ _ q⟩
theorem rW.mono {f : Value → Value → Sem Value} {x y : V} {Q Q' : VK} (h : rW X f x y H Q) (hQ : ∀ v H, Q v H → Q' v H) : rW X f x y H Q' := fun pins s σ v u I r1 r2 => thn (h pins s σ v u I r1 r2) fun _ _ => EP.mono hQ
theorem PIE.mono {pins : List (Addr × Obj)} {R R' : It → Hp → Prop} (hR : ∀ J H, R J H → R' J H) {v s} (h : PIE X pins σ tg R v s) : PIE X pins σ tg R' v s := let ⟨a, b, c, d, e, f, g, i, j, k, l⟩ := h; ⟨a, b, c, d, e, f, g, i, j, k, hR _ _ l⟩
theorem tWI.mono {R R' : It → Hp → Prop} (h : tWI X tg iter σ H R) (hR : ∀ J H, R J H → R' J H) : tWI X tg iter σ H R' := fun pins s I => thn (h pins s I) fun _ _ h1 => thn h1 fun _ _ => PIE.mono hR
end
/-- what is wanted of a value behind, told of a value without a heap -/
def Post (K : PySem.W.Frag) (ro fr : List Addr) (H : Hp) (Q : PV → Sto → Prop) : VK := fun v H' => ∃ ro' x st', Ext ro H ro' H' ∧ RepS K ro' fr H' st' ∧ RepV K ro' fr H' x v ∧ Q x st'
def PostA (K : PySem.W.Frag) (ro fr : List Addr) (H : Hp) (Q : List PV → Sto → Prop) : List V → Hp → Prop := fun v H' => ∃ ro' x st', Ext ro H ro' H' ∧ RepS K ro' fr H' st' ∧ RepVs K ro' fr H' x v ∧ Q x st'
def PostT (K : PySem.W.Frag) (ro fr : List Addr) (H : Hp) (Q : Bool → Sto → Prop) : Bool → Hp → Prop := fun b H' => ∃ ro' st', Ext ro H ro' H' ∧ RepS K ro' fr H' st' ∧ Q b st'
def PostN (K : PySem.W.Frag) (ro fr : List Addr) (H : Hp) (Q : Envp → Sto → Prop) : L2.St → Hp → Prop := fun σ H' => ∃ ro' env st', Ext ro H ro' H' ∧ RepS K ro' fr H' st' ∧ RepEnv K ro' fr H' env σ ∧ Q env st'
def endsOf (K : PySem.W.Frag) (ro fr : List Addr) (H : Hp) (D : EndsP) : Ends := ⟨PostN K ro fr H D.nx, Post K ro fr H D.rt, PostN K ro fr H D.bk, PostN K ro fr H D.ct⟩
/-- what is wanted where an exception of this class is in the air -/
def PostEx (K : PySem.W.Frag) (ro fr : List Addr) (H : Hp) (P : Value → Envp → Sto → Prop) : WX := fun cls _ σ H' => ∃ ro' env st', Ext ro H ro' H' ∧ RepS K ro' fr H' st' ∧ RepEnv K ro' fr H' env σ ∧ P cls env st'
/-- the context takes such -/
def TK (X : Cx) (ro fr : List Addr) (H : Hp) (P : Value → Envp → Sto → Prop) : Prop := Takes X (PostEx X.K ro fr H P)
theorem TK.no {X : Cx} {ro fr : List Addr} {H : Hp} : TK X ro fr H (fun _ _ _ => False) := fun _ _ ⟨_, _, _, _, _, _, _, _, _, _, _, _, _, _, _, _, _, _, _, _, _, _, h⟩ => h.elim
theorem TK.ext {X : Cx} {ro ro' fr : List Addr} {H H' : Hp} {P : Value → Envp → Sto → Prop} (t : TK X ro fr H P) (e : Ext ro H ro' H') : TK X ro' fr H' P := Takes.imp t fun _ _ _ _ ⟨a, b, c, d, f⟩ => ⟨a, b, c, e.trans d, f⟩
section
variable {K : PySem.W.Frag} {ro ro' fr : List Addr} {H H' : Hp}
theorem Post.ext (e : Ext ro H ro' H') {Q : PV → Sto → Prop} {v H2} (h : Post K ro' fr H' Q v H2) : Post K ro fr H Q v H2 := let ⟨a, b, c, d, f⟩ := h; ⟨a, b, c, e.trans d, f⟩
theorem PostA.ext (e : Ext ro H ro' H') {Q : List PV → Sto → Prop} {v H2} (h : PostA K ro' fr H' Q v H2) : PostA K ro fr H Q v H2 := let ⟨a, b, c, d, f⟩ := h; ⟨a, b, c, e.trans d, f⟩
theorem PostT.ext (e : Ext ro H ro' H') {Q : Bool → Sto → Prop} {v H2} (h : PostT K ro' fr H' Q v H2) : PostT K ro fr H Q v H2 := let ⟨a, b, d, f⟩ := h; ⟨a, b, e.trans d, f⟩
theorem PostN.ext (e : Ext ro H ro' H') {Q : Envp → Sto → Prop} {v H2} (h : PostN K ro' fr H' Q v H2) : PostN K ro fr H Q v H2 := let ⟨a, b, c, d, f⟩ := h; ⟨a, b, c, e.trans d, f⟩
end
/-- the judgements -/
structure DE (X : Cx) (e : Expr) (w : WE) : Prop where
  run : ∀ ro fr σ H env st Q, RepEnv X.K ro fr H env σ → RepS X.K ro fr H st → w env st Q → tW X e σ H (Post X.K ro fr H Q)
instance {X : Cx} {e : Expr} {w : WE} : CoeFun (DE X e w) (fun _ => ∀ ro fr σ H env st Q, RepEnv X.K ro fr H env σ → RepS X.K ro fr H st → w env st Q → tW X e σ H (Post X.K ro fr H Q)) := ⟨DE.run⟩
structure DA (X : Cx) (es : List Expr) (w : WA) : Prop where
  run : ∀ ro fr σ H env st Q, RepEnv X.K ro fr H env σ → RepS X.K ro fr H st → w env st Q → tWA X es σ H (PostA X.K ro fr H Q)
instance {X : Cx} {es : List Expr} {w : WA} : CoeFun (DA X es w) (fun _ => ∀ ro fr σ H env st Q, RepEnv X.K ro fr H env σ → RepS X.K ro fr H st → w env st Q → tWA X es σ H (PostA X.K ro fr H Q)) := ⟨DA.run⟩
structure DT (X : Cx) (e : Expr) (w : WT) : Prop where
  run : ∀ ro fr σ H env st Q, RepEnv X.K ro fr H env σ → RepS X.K ro fr H st → w env st Q → tWT X e σ H (PostT X.K ro fr H Q)
instance {X : Cx} {e : Expr} {w : WT} : CoeFun (DT X e w) (fun _ => ∀ ro fr σ H env st Q, RepEnv X.K ro fr H env σ → RepS X.K ro fr H st → w env st Q → tWT X e σ H (PostT X.K ro fr H Q)) := ⟨DT.run⟩
structure DW (X : Cx) (e : Expr) (w : WT) : Prop where
  run : ∀ ro fr σ H env st Q, RepEnv X.K ro fr H env σ → RepS X.K ro fr H st → w env st Q → tWW X e σ H (PostT X.K ro fr H Q)
instance {X : Cx} {e : Expr} {w : WT} : CoeFun (DW X e w) (fun _ => ∀ ro fr σ H env st Q, RepEnv X.K ro fr H env σ → RepS X.K ro fr H st → w env st Q → tWW X e σ H (PostT X.K ro fr H Q)) := ⟨DW.run⟩
structure DS (X : Cx) (s : Stmt) (w : WS) : Prop where
  run : ∀ ro fr σ H env st D, RepEnv X.K ro fr H env σ → RepS X.K ro fr H st → TK X ro fr H D.xx → w D env st → tWS X s (endsOf X.K ro fr H D) σ H
instance {X : Cx} {s : Stmt} {w : WS} : CoeFun (DS X s w) (fun _ => ∀ ro fr σ H env st D, RepEnv X.K ro fr H env σ → RepS X.K ro fr H st → TK X ro fr H D.xx → w D env st → tWS X s (endsOf X.K ro fr H D) σ H) := ⟨DS.run⟩
structure DSs (X : Cx) (s : List Stmt) (w : WS) : Prop where
  run : ∀ ro fr σ H env st D, RepEnv X.K ro fr H env σ → RepS X.K ro fr H st → TK X ro fr H D.xx → w D env st → tWSs X s (endsOf X.K ro fr H D) σ H
instance {X : Cx} {s : List Stmt} {w : WS} : CoeFun (DSs X s w) (fun _ => ∀ ro fr σ H env st D, RepEnv X.K ro fr H env σ → RepS X.K ro fr H st → TK X ro fr H D.xx → w D env st → tWSs X s (endsOf X.K ro fr H D) σ H) := ⟨DSs.run⟩
/-- σ and σ' part at most at the slots sl -/
def Apart (sl : List Nat) (σ σ' : L2.St) : Prop := σ'.length = σ.length ∧ ∀ i, i ∉ sl → σ'[i]? = σ[i]?
structure DG (X : Cx) (tg : Expr) (sl : List Nat) (g : WG) : Prop where
  run : ∀ ro fr σ H env st x v Q, RepEnv X.K ro fr H env σ → RepS X.K ro fr H st → RepV X.K ro fr H x v → g x env st Q → tWG X tg v σ H (fun σ' H' => Apart sl σ σ' ∧ PostN X.K ro fr H Q σ' H')
instance {X : Cx} {tg : Expr} {sl : List Nat} {g : WG} : CoeFun (DG X tg sl g) (fun _ => ∀ ro fr σ H env st x v Q, RepEnv X.K ro fr H env σ → RepS X.K ro fr H st → RepV X.K ro fr H x v → g x env st Q → tWG X tg v σ H (fun σ' H' => Apart sl σ σ' ∧ PostN X.K ro fr H Q σ' H')) := ⟨DG.run⟩
structure DGs (X : Cx) (ts : List Expr) (sl : List Nat) (g : List PV → Envp → Sto → (Envp → Sto → Prop) → Prop) : Prop where
  run : ∀ ro fr σ H env st xs vs Q, RepEnv X.K ro fr H env σ → RepS X.K ro fr H st → RepVs X.K ro fr H xs vs → g xs env st Q →
  tWGs X ts vs σ H (fun σ' H' => Apart sl σ σ' ∧ PostN X.K ro fr H Q σ' H')
instance {X : Cx} {ts : List Expr} {sl : List Nat} {g : List PV → Envp → Sto → (Envp → Sto → Prop) → Prop} : CoeFun (DGs X ts sl g) (fun _ => ∀ ro fr σ H env st xs vs Q, RepEnv X.K ro fr H env σ → RepS X.K ro fr H st → RepVs X.K ro fr H xs vs → g xs env st Q →
  tWGs X ts vs σ H (fun σ' H' => Apart sl σ σ' ∧ PostN X.K ro fr H Q σ' H')) := ⟨DGs.run⟩
/-- an operator, by values -/
structure DOp (X : Cx) (f : Value → Value → Sem Value) (r : PV → PV → Sto → (PV → Sto → Prop) → Prop) : Prop where
  run : ∀ ro fr H st x y v u Q, RepS X.K ro fr H st → RepV X.K ro fr H x v → RepV X.K ro fr H y u → r x y st Q → rW X f v u H (Post X.K ro fr H Q)
instance {X : Cx} {f : Value → Value → Sem Value} {r : PV → PV → Sto → (PV → Sto → Prop) → Prop} : CoeFun (DOp X f r) (fun _ => ∀ ro fr H st x y v u Q, RepS X.K ro fr H st → RepV X.K ro fr H x v → RepV X.K ro fr H y u → r x y st Q → rW X f v u H (Post X.K ro fr H Q)) := ⟨DOp.run⟩
def wVar (i : Nat) : WE := fun env st Q => ∃ x, env[i]? = some (some x) ∧ Q x st
def wC (x : PV) : WE := fun _ st Q => Q x st
def wOp (r : PV → PV → Sto → (PV → Sto → Prop) → Prop) (wa wb : WE) : WE := fun env st Q => wa env st fun x st1 => wb env st1 fun y st2 => r x y st2 Q
def wNil : WA := fun _ st Q => Q [] st
def wCons (wa : WE) (wr : WA) : WA := fun env st Q => wa env st fun x st1 => wr env st1 fun xs st2 => Q (x :: xs) st2
def wTup (wa : WA) : WE := fun env st Q => wa env st fun xs st1 => xs.length ≤ sizeLine ∧ Q (.tup xs) st1
/-- a new list: a cell where m says so -/
def newL (m : Bool) (xs : List PV) (st : Sto) (Q : PV → Sto → Prop) : Prop := match m with
  | true => Q (.ref st.length) (st ++ [.lst xs])
  | false => Q (.lst xs) st
def wLst (m : Bool) (wa : WA) : WE := fun env st Q => wa env st fun xs st1 => xs.length ≤ sizeLine ∧ newL m xs st1 Q
def wIf (wt : WT) (wa wb : WE) : WE := fun env st Q => wt env st fun b st1 => if b = true then wa env st1 Q else wb env st1 Q
def tAndP (t u : WT) : WT := fun env st Q => t env st fun b st1 => if b = true then u env st1 Q else Q false st1
def tOrP (t u : WT) : WT := fun env st Q => t env st fun b st1 => if b = true then Q true st1 else u env st1 Q
def tNotP (t : WT) : WT := fun env st Q => t env st fun b st1 => Q (!b) st1
/-- a test by the bool that an expression gives -/
def tValP (w : WE) : WT := fun env st Q => w env st fun x st1 => ∃ b, x = .bl b ∧ Q b st1
def sNext : WS := fun D env st => D.nx env st
def sSeq (t u : WS) : WS := fun D env st => t { D with nx := u D } env st
def sIf (c : WT) (t u : WS) : WS := fun D env st => c env st fun b st1 => if b = true then t D env st1 else u D env st1
def sRet (w : WE) : WS := fun D env st => w env st D.rt
def sRetN : WS := fun D _ st => D.rt .non st
def sDrop (w : WE) : WS := fun D env st => w env st fun _ st1 => D.nx env st1
def sBrk : WS := fun D env st => D.bk env st
def sCnt : WS := fun D env st => D.ct env st
def sNever : WS := fun _ _ _ => False
def gNm (i : Nat) : WG := fun x env st Q => Q (env.set i (some x)) st
def gNl : List PV → Envp → Sto → (Envp → Sto → Prop) → Prop := fun xs env st Q => xs = [] ∧ Q env st
def gCn (g : WG) (gs : List PV → Envp → Sto → (Envp → Sto → Prop) → Prop) : List PV → Envp → Sto → (Envp → Sto → Prop) → Prop := fun xs env st Q => ∃ y ys, xs = y :: ys ∧ g y env st fun env1 st1 => gs ys env1 st1 Q
def gTp (n : Nat) (gs : List PV → Envp → Sto → (Envp → Sto → Prop) → Prop) : WG := fun x env st Q => ∃ xs, x = .tup xs ∧ xs.length = n ∧ gs xs env st Q
def sAsg (w : WE) (g : WG) : WS := fun D env st => w env st fun x st1 => g x env st1 D.nx
section
variable {X : Cx} {a b e : Expr} {es : List Expr} {wa wb w : WE} {ws wr : WA} {t u : WT} {pos : Pos}
theorem d_var {i : Nat} {x : Str} (hN : X.N[i]? = some x) (hv : Vis X.env.scope x) (hd : (x == ("__debug__" : Str)) = false := by decide +kernel) (hcd : (x == ("__classdict__" : Str)) = false := by decide +kernel) : DE X (.Name x pos) (wVar i) := by
  refine ⟨?_⟩
  intro ro fr σ H env st Q E S ⟨x, hx, q⟩
  obtain ⟨v, h1, h2⟩ := E.2 i x hx
  exact toW (pe_var hN hv hd hcd) ⟨v, h1, ro, x, st, .refl, S, h2, q⟩
theorem d_of {t : TE} {x : PV} {v : V} (p : PE X e t) (ht : ∀ σ H Q, Q v H → t σ H Q) (r : ∀ ro fr H, RepV X.K ro fr H x v) : DE X e (wC x) :=
  .mk fun ro fr σ H env st Q E S q => toW p (ht _ _ _ ⟨ro, x, st, .refl, S, r _ _ _, q⟩)
theorem d_int {i j} : DE X (.Constant (.int i) j pos) (wC (.int i)) := d_of (v := .int i) pe_int (fun _ _ _ q => q) fun _ _ _ => .int i
theorem d_bl {b j} : DE X (.Constant (.bool b) j pos) (wC (.bl b)) := d_of (v := .bl b) pe_bl (fun _ _ _ q => q) fun _ _ _ => .bl b
theorem d_non {j} : DE X (.Constant .none j pos) (wC .non) := d_of (v := .non) pe_non (fun _ _ _ q => q) fun _ _ _ => .non
theorem d_str {x j} : DE X (.Constant (.str x) j pos) (wC (.str x)) := d_of (v := .str x) pe_str (fun _ _ _ q => q) fun _ _ _ => .str x
theorem d_glob {x : Str} {y : PV} {v : V} {u : Value} (hg : Gl X x) (hm : X.mg x = some u) (r : RelV v u) (ry : ∀ ro fr H, RepV X.K ro fr H y v) (hd : (x == ("__debug__" : Str)) = false := by decide +kernel) : DE X (.Name x pos) (wC y) :=
  d_of (v := v) (pe_glob hg hm r hd) (fun _ _ _ q => q) ry
theorem d_op {op : Operator} {r} (ho : DOp X (binaryOp op) r) (ha : DE X a wa) (hb : DE X b wb) : DE X (.BinOp a op b pos) (wOp r wa wb) := by
  refine ⟨?_⟩
  intro ro fr σ H env st Q E S h
  refine toW (pe_op (op_W X _) (pe_W X a) (pe_W X b)) ?_
  refine tW.mono (ha _ _ _ _ _ _ _ E S h) fun v H1 ⟨ro1, x, st1, e1, S1, r1, h1⟩ => ?_
  refine tW.mono (hb _ _ _ _ _ _ _ (E.ext e1) S1 h1) fun v2 H2 ⟨ro2, y, st2, e2, S2, r2, h2⟩ => ?_
  exact rW.mono (ho _ _ _ _ _ _ _ _ _ S2 (r1.ext e2) r2 h2) fun _ _ h => h.ext (e1.trans e2)
theorem d_cmp {op : CmpOp} {r} (ho : DOp X (compareOp op) r) (ha : DE X a wa) (hb : DE X b wb) (hm : behindInMarks op b = false) : DE X (.Compare a [op] [b] pos) (wOp r wa wb) := by
  refine ⟨?_⟩
  intro ro fr σ H env st Q E S h
  refine toW (pe_cmpR (op_W X _) (pe_W X a) (pe_W X b) hm) ?_
  refine tW.mono (ha _ _ _ _ _ _ _ E S h) fun v H1 ⟨ro1, x, st1, e1, S1, r1, h1⟩ => ?_
  refine tW.mono (hb _ _ _ _ _ _ _ (E.ext e1) S1 h1) fun v2 H2 ⟨ro2, y, st2, e2, S2, r2, h2⟩ => ?_
  exact rW.mono (ho _ _ _ _ _ _ _ _ _ S2 (r1.ext e2) r2 h2) fun _ _ h => h.ext (e1.trans e2)
theorem dt_cmp {op : CmpOp} {r} (ho : DOp X (compareOp op) r) (ha : DE X a wa) (hb : DE X b wb) (hm : behindInMarks op b = false) : DT X (.Compare a [op] [b] pos) (tValP (wOp r wa wb)) := by
  refine ⟨?_⟩
  intro ro fr σ H env st Q E S h
  refine toWT (pt_cmpR (op_W X _) (pe_W X a) (pe_W X b) hm) ?_
  refine tW.mono (ha _ _ _ _ _ _ _ E S h) fun v H1 ⟨ro1, x, st1, e1, S1, r1, h1⟩ => ?_
  refine tW.mono (hb _ _ _ _ _ _ _ (E.ext e1) S1 h1) fun v2 H2 ⟨ro2, y, st2, e2, S2, r2, h2⟩ => ?_
  refine rW.mono (ho _ _ _ _ _ _ _ _ _ S2 (r1.ext e2) r2 h2) fun v3 H3 ⟨ro3, z, st3, e3, S3, r3, k, hz, q⟩ => ?_
  subst hz
  cases r3
  exact ⟨k, rfl, ro3, st3, (e1.trans e2).trans e3, S3, q⟩
theorem dt_w (h : DW X e t) : DT X e t := .mk fun ro fr σ H env st Q E S hw => toWT (pw_W X e).pt (h _ _ _ _ _ _ _ E S hw)
theorem dw_and1 (ha : DT X a t) : DW X (.BoolOp .And [a] pos) t := .mk fun ro fr σ H env st Q E S hw => toWW (pw_and1 (pt_W X a)) (ha _ _ _ _ _ _ _ E S hw)
theorem dw_or1 (ha : DT X a t) : DW X (.BoolOp .Or [a] pos) t := .mk fun ro fr σ H env st Q E S hw => toWW (pw_or1 (pt_W X a)) (ha _ _ _ _ _ _ _ E S hw)
theorem dw_and {rest : List Expr} (ha : DT X a t) (hb : DW X (.BoolOp .And (b :: rest) pos) u) : DW X (.BoolOp .And (a :: b :: rest) pos) (tAndP t u) := by
  refine ⟨?_⟩
  intro ro fr σ H env st Q E S hw
  refine toWW (pw_and (pt_W X a) (pw_W X _)) ?_
  refine tWT.mono (ha _ _ _ _ _ _ _ E S hw) fun c H1 ⟨ro1, st1, e1, S1, q⟩ => ?_
  cases c with
  | true => exact tWW.mono (hb _ _ _ _ _ _ _ (E.ext e1) S1 q) fun _ _ h => h.ext e1
  | false => exact ⟨ro1, st1, e1, S1, q⟩
theorem dw_or {rest : List Expr} (ha : DT X a t) (hb : DW X (.BoolOp .Or (b :: rest) pos) u) : DW X (.BoolOp .Or (a :: b :: rest) pos) (tOrP t u) := by
  refine ⟨?_⟩
  intro ro fr σ H env st Q E S hw
  refine toWW (pw_or (pt_W X a) (pw_W X _)) ?_
  refine tWT.mono (ha _ _ _ _ _ _ _ E S hw) fun c H1 ⟨ro1, st1, e1, S1, q⟩ => ?_
  cases c with
  | true => exact ⟨ro1, st1, e1, S1, q⟩
  | false => exact tWW.mono (hb _ _ _ _ _ _ _ (E.ext e1) S1 q) fun _ _ h => h.ext e1
theorem dt_not (ha : DT X a t) : DT X (.UnaryOp .Not a pos) (tNotP t) := by
  refine ⟨?_⟩
  intro ro fr σ H env st Q E S hw
  refine toWT (pt_not (pt_W X a)) ?_
  exact tWT.mono (ha _ _ _ _ _ _ _ E S hw) fun c H1 ⟨ro1, st1, e1, S1, q⟩ => ⟨ro1, st1, e1, S1, q⟩
/-- arguments -/
theorem da_nil : DA X [] wNil := .mk fun ro fr σ H env st Q E S q => toWA pa_nil ⟨ro, [], st, .refl, S, .nil, q⟩
theorem da_cons (ha : DE X e wa) (hr : DA X es wr) (hs : starEach (e :: es) X.env = (false, eval e X.env) :: starEach es X.env := by exact star_cons (by rfl)) : DA X (e :: es) (wCons wa wr) := by
  refine ⟨?_⟩
  intro ro fr σ H env st Q E S hw
  refine toWA (pa_cons (pe_W X e) (pa_W X es) hs) ?_
  refine tW.mono (ha _ _ _ _ _ _ _ E S hw) fun v H1 ⟨ro1, x, st1, e1, S1, r1, h1⟩ => ?_
  refine tWA.mono (hr _ _ _ _ _ _ _ (E.ext e1) S1 h1) fun v2 H2 ⟨ro2, y, st2, e2, S2, r2, h2⟩ => ?_
  exact ⟨ro2, x :: y, st2, e1.trans e2, S2, .cons (r1.ext e2) r2, h2⟩
theorem new_lst {K : PySem.W.Frag} {ro fr : List Addr} {H : Hp} {st : Sto} {xs : List PV} {vs : List V} {p : Addr} (m : Bool) {Q : PV → Sto → Prop} (S : RepS K ro fr H st) (r : RepVs K ro fr H xs vs) (hp : H p = none) (q : newL m xs st Q) :
    Post K ro fr H Q (.ref p) (upd H p (.lst vs)) := by
  cases m with
  | false => exact ⟨ro, .lst xs, st, ext_new hp, S.new hp, .lst ⟨upd_same, S.fresh hp⟩ (r.ext (ext_new hp)), q⟩
  | true =>
    refine ⟨ro ++ [p], .ref st.length, _, ext_cell hp, S.cell hp (c := .lst xs) ⟨vs, upd_same, r.ext (ext_cell hp)⟩, .ref ?_, q⟩
    rw [← S.len]; simp
theorem new_tup {K : PySem.W.Frag} {ro fr : List Addr} {H : Hp} {st : Sto} {xs : List PV} {vs : List V} {p : Addr} {Q : PV → Sto → Prop} (S : RepS K ro fr H st) (r : RepVs K ro fr H xs vs) (hp : H p = none) (q : Q (.tup xs) st) :
    Post K ro fr H Q (.ref p) (upd H p (.tup vs)) := ⟨ro, .tup xs, st, ext_new hp, S.new hp, .tup (.inl ⟨.inl upd_same, S.fresh hp⟩) (r.ext (ext_new hp)), q⟩
theorem d_tup {k} (ha : DA X es ws) : DE X (.Tuple es k pos) (wTup ws) := by
  refine ⟨?_⟩
  intro ro fr σ H env st Q E S hw
  refine toW (pe_tup (pa_W X es)) ?_
  refine tWA.mono (ha _ _ _ _ _ _ _ E S hw) fun v H1 ⟨ro1, x, st1, e1, S1, r1, h1, h2⟩ => ⟨by rw [← r1.length]; exact h1, fun p hp => ?_⟩
  exact (new_tup S1 r1 hp h2).ext e1
theorem d_lst (m : Bool) (ha : DA X es ws) : DE X (.List es pos) (wLst m ws) := by
  refine ⟨?_⟩
  intro ro fr σ H env st Q E S hw
  refine toW (pe_lst (pa_W X es)) ?_
  refine tWA.mono (ha _ _ _ _ _ _ _ E S hw) fun v H1 ⟨ro1, x, st1, e1, S1, r1, h1, h2⟩ => ⟨by rw [← r1.length]; exact h1, fun p hp => ?_⟩
  exact (new_lst m S1 r1 hp h2).ext e1
end
section
variable {X : Cx} {st st1 : Stmt} {sts : List Stmt} {e tg : Expr} {w : WE} {t u : WS} {c : WT} {g : WG} {pos : Pos}
theorem ds_nil : DSs X [] sNext := .mk fun ro fr σ H env st D E S T h => toWSs pss_nil ⟨ro, env, st, .refl, S, E, h⟩
theorem ds_one (h : DS X st t) : DSs X [st] t := .mk fun ro fr σ H env sto D E S T hw => toWSs (pss_one (ps_W X st)) (h _ _ _ _ _ _ _ E S T hw)
theorem ds_cons (h1 : DS X st t) (h2 : DSs X sts u) : DSs X (st :: sts) (sSeq t u) := by
  refine ⟨?_⟩
  intro ro fr σ H env sto D E S T hw
  refine toWSs (pss_cons (ps_W X st) (pss_W X sts)) ?_
  refine tWS.mono (h1 _ _ _ _ _ _ { D with nx := u D } E S T hw) ?_ (fun _ _ h => h) (fun _ _ h => h) (fun _ _ h => h)
  rintro σ' H' ⟨ro1, env1, sto1, e1, S1, E1, h⟩
  exact tWSs.mono (h2 _ _ _ _ _ _ _ E1 S1 (T.ext e1) h) (fun _ _ h => h.ext e1) (fun _ _ h => h.ext e1) (fun _ _ h => h.ext e1) (fun _ _ h => h.ext e1)
theorem ds_if {a b : List Stmt} {cE : Expr} (hc : DT X cE c) (ha : DSs X a t) (hb : DSs X b u) : DS X (.If cE a b pos) (sIf c t u) := by
  refine ⟨?_⟩
  intro ro fr σ H env sto D E S T hw
  refine toWS (ps_if (pt_W X cE) (pss_W X a) (pss_W X b)) ?_
  refine tWT.mono (hc _ _ _ _ _ _ _ E S hw) fun k H1 ⟨ro1, st1, e1, S1, q⟩ => ?_
  cases k with
  | true => exact tWSs.mono (ha _ _ _ _ _ _ _ (E.ext e1) S1 (T.ext e1) q) (fun _ _ h => h.ext e1) (fun _ _ h => h.ext e1) (fun _ _ h => h.ext e1) (fun _ _ h => h.ext e1)
  | false => exact tWSs.mono (hb _ _ _ _ _ _ _ (E.ext e1) S1 (T.ext e1) q) (fun _ _ h => h.ext e1) (fun _ _ h => h.ext e1) (fun _ _ h => h.ext e1) (fun _ _ h => h.ext e1)
theorem ds_ret (h : DE X e w) : DS X (.Return (some e) pos) (sRet w) := .mk fun ro fr σ H env sto D E S T hw => toWS (ps_ret (pe_W X e)) (h _ _ _ _ _ _ _ E S hw)
theorem ds_expr (h : DE X e w) (hs : swapsWith e none pos.line X.env = pure false := by exact swaps_no (by rfl)) : DS X (.Expr e pos) (sDrop w) := by
  refine ⟨?_⟩
  intro ro fr σ H env sto D E S T hw
  refine toWS (ps_expr (pe_W X e) hs) ?_
  exact tW.mono (h _ _ _ _ _ _ _ E S hw) fun v H1 ⟨ro1, x, st1, e1, S1, r1, h1⟩ => ⟨ro1, env, st1, e1, S1, E.ext e1, h1⟩
theorem ds_never : DS X st sNever := .mk fun _ _ _ _ _ _ _ _ _ _ h => h.elim
theorem Apart.set {σ : L2.St} {i : Nat} {v : Option V} : Apart [i] σ (σ.set i v) := ⟨by simp, fun j hj => by rw [List.getElem?_set_ne]; simp at hj; exact fun z => hj z.symm⟩
theorem RepEnv.set {K : PySem.W.Frag} {ro fr : List Addr} {H : Hp} {env : Envp} {σ : L2.St} {i : Nat} {x : PV} {v : V} (E : RepEnv K ro fr H env σ) (r : RepV K ro fr H x v) : RepEnv K ro fr H (env.set i (some x)) (σ.set i (some v)) := by
  refine ⟨by simp [E.1], fun j y h => ?_⟩
  by_cases e : i = j
  · subst e
    have hi : i < env.length := by
      have := (List.getElem?_eq_some_iff.mp h).1
      simpa using this
    rw [List.getElem?_set_self hi] at h
    cases h
    exact ⟨v, List.getElem?_set_self (by rw [← E.1]; exact hi), r⟩
  · rw [List.getElem?_set_ne e] at h
    obtain ⟨u, h1, h2⟩ := E.2 j y h
    exact ⟨u, by rw [List.getElem?_set_ne e]; exact h1, h2⟩
theorem dg_name {i : Nat} {x : Str} (hN : X.N.Nodup) (hi : X.N[i]? = some x) (hx : Loc X.env.scope x) (hf : X.fn x = true ∨ X.env.scope.names.lookup x = some .local := by first | exact .inl rfl | exact .inr rfl | assumption) : DG X (.Name x pos) [i] (gNm i) := by
  refine ⟨?_⟩
  intro ro fr σ H env st x v Q E S r h
  exact toWG (pg_name hN hi hx hf) ⟨.set, ro, _, st, .refl, S, E.set r, h⟩
theorem dgs_nil : DGs X [] [] gNl := by
  refine ⟨?_⟩
  intro ro fr σ H env st xs vs Q E S r ⟨h, q⟩
  subst h
  cases r
  exact toWGs pgs_nil ⟨rfl, ⟨rfl, fun _ _ => rfl⟩, ro, env, st, .refl, S, E, q⟩
theorem Apart.trans {sl sl' : List Nat} {σ σ' σ2 : L2.St} (h : Apart sl σ σ') (g : Apart sl' σ' σ2) : Apart (sl ++ sl') σ σ2 :=
  ⟨g.1.trans h.1, fun i hi => (g.2 i fun z => hi (List.mem_append_right _ z)).trans (h.2 i fun z => hi (List.mem_append_left _ z))⟩
theorem dgs_cons {es : List Expr} {sl sl' : List Nat} {gs} (h1 : DG X e sl g) (h2 : DGs X es sl' gs) (hs : (assignEach (e :: es) X.env).map (·.2) = assign e X.env :: (assignEach es X.env).map (·.2) := by exact asg_cons (by rfl)) : DGs X (e :: es) (sl ++ sl') (gCn g gs) := by
  refine ⟨?_⟩
  intro ro fr σ H env st xs vs Q E S r ⟨y, ys, hx, q⟩
  subst hx
  cases r with
  | @cons _ _ v vs r1 r2 =>
    refine toWGs (pgs_cons (pg_W X e) (pgs_W X es) hs) ⟨v, vs, rfl, ?_⟩
    refine tWG.mono (h1 _ _ _ _ _ _ _ _ _ E S r1 q) fun σ1 H1 ⟨a1, ro1, env1, st1, e1, S1, E1, q1⟩ => ?_
    exact tWGs.mono (h2 _ _ _ _ _ _ _ _ _ E1 S1 (r2.ext e1) q1) fun σ2 H2 ⟨a2, q2⟩ => ⟨a1.trans a2, q2.ext e1⟩
theorem dg_tup {es : List Expr} {sl : List Nat} {gs} {k n : Nat} (hc : X.calm = true) (h : DGs X es sl gs) (hn : (assignEach es X.env).length = n := by exact asg_len.trans (by rfl)) (hst : (assignEach es X.env).findIdx? (·.1) = none := by exact asg_find (by rfl)) : DG X (.Tuple es k pos) sl (gTp n gs) := by
  refine ⟨?_⟩
  intro ro fr σ H env st x v Q E S r ⟨xs, hx, hl, q⟩
  subst hx
  cases r with
  | @tup a _ vs h1 h2 =>
    exact toWG (pg_tup hc (pgs_W X es) hn hst) ⟨a, vs, rfl, h1.sq, by rw [← h2.length]; exact hl, h _ _ _ _ _ _ _ _ _ E S h2 q⟩
theorem ds_asg {sl : List Nat} (he : DE X e w) (hg : DG X tg sl g) (hs : swapsWithSole [tg] e pos.line X.env = pure false := by first | exact swaps_sole (by rfl) | rfl) (hw : swappedStores [tg] e X.env = pure none := by first | exact swst_no (by rfl) | rfl)
    (h1 : (assignEach [tg] X.env).map (·.2) = [assign tg X.env] := by exact asg_one (by rfl)) : DS X (.Assign [tg] e pos) (sAsg w g) := by
  refine ⟨?_⟩
  intro ro fr σ H env sto D E S T hw'
  refine toWS (ps_asg (pe_W X e) (pg_W X tg) hs hw h1) ?_
  refine tW.mono (he _ _ _ _ _ _ _ E S hw') fun v H1 ⟨ro1, x, st1, e1, S1, r1, q1⟩ => ?_
  exact tWG.mono (hg _ _ _ _ _ _ _ _ _ (E.ext e1) S1 r1 q1) fun σ2 H2 ⟨_, q2⟩ => q2.ext e1
theorem ds_set {i : Nat} {x : Str} {pos' : Pos} (hN : X.N.Nodup) (hi : X.N[i]? = some x) (hx : Loc X.env.scope x) (he : DE X e w) (hs : swapsWith e (some (.Name x pos')) pos.line X.env = pure false := by first | exact swaps_no (by rfl) | rfl) (hf : X.fn x = true ∨ X.env.scope.names.lookup x = some .local := by first | exact .inl rfl | exact .inr rfl | assumption) :
    DS X (.Assign [.Name x pos'] e pos) (sAsg w (gNm i)) := by
  refine ⟨?_⟩
  intro ro fr σ H env sto D E S T hw
  refine toWS (ps_set hN hi hx (pe_W X e) hs hf) ?_
  refine tW.mono (he _ _ _ _ _ _ _ E S hw) fun v H1 ⟨ro1, y, st1, e1, S1, r1, q1⟩ => ?_
  exact ⟨ro1, _, st1, e1, S1, (E.ext e1).set r1, q1⟩
end
end Pv
namespace Pv
open PySem PySem.Spec L2
section
variable {K : PySem.W.Frag} {ro ro' fr fr' : List Addr} {H H' : Hp}
theorem Rd.some {a : Addr} {u : HO} (h : Rd H a u) : ∃ o, H a = some o := by
  rcases h with h | ⟨o, h⟩
  · exact ⟨_, h⟩
  · exact ⟨_, h⟩
/-- more set aside, of what isn't there yet -/
theorem RepV.more (h : ∀ a ∈ fr', a ∈ fr ∨ H a = none) : ∀ {x : PV} {v : V}, RepV K ro fr H x v → RepV K ro fr' H x v := fun {x v} r => by
  have key : ∀ {a u}, Rd H a u → a ∉ fr → a ∉ fr' := fun {a u} r n m => (h a m).elim n fun z => by obtain ⟨o, e⟩ := Rd.some r; rw [z] at e; cases e
  exact RepV.imp (fun a vs q => ⟨q.1, q.2.1, key (.inl q.1) q.2.2⟩) (fun a vs q => q.imp (fun ⟨q1, q2, q3⟩ => ⟨q1, q2, key q1 q3⟩) id) (fun a vs q => q.imp (fun ⟨q1, q2, q3⟩ => ⟨q1, q2, key q1 q3⟩) id) (fun a vs q => ⟨q.1, q.2.1, key (.inl q.1) q.2.2⟩) (fun a vs ⟨⟨o, q1, qd⟩, q2, q3⟩ => ⟨⟨o, q1, qd⟩, q2, key (.inr ⟨o, q1⟩) q3⟩) (fun a C vs ⟨⟨o, q1⟩, q2, q3⟩ => ⟨⟨o, q1⟩, q2, key (.inl q1) q3⟩) (fun _ _ q => q) x v r
theorem RepVs.more (h : ∀ a ∈ fr', a ∈ fr ∨ H a = none) : ∀ {x : List PV} {v : List V}, RepVs K ro fr H x v → RepVs K ro fr' H x v := fun {x v} r => by
  have key : ∀ {a u}, Rd H a u → a ∉ fr → a ∉ fr' := fun {a u} r n m => (h a m).elim n fun z => by obtain ⟨o, e⟩ := Rd.some r; rw [z] at e; cases e
  exact RepVs.imp (fun a vs q => ⟨q.1, q.2.1, key (.inl q.1) q.2.2⟩) (fun a vs q => q.imp (fun ⟨q1, q2, q3⟩ => ⟨q1, q2, key q1 q3⟩) id) (fun a vs q => q.imp (fun ⟨q1, q2, q3⟩ => ⟨q1, q2, key q1 q3⟩) id) (fun a vs q => ⟨q.1, q.2.1, key (.inl q.1) q.2.2⟩) (fun a vs ⟨⟨o, q1, qd⟩, q2, q3⟩ => ⟨⟨o, q1, qd⟩, q2, key (.inr ⟨o, q1⟩) q3⟩) (fun a C vs ⟨⟨o, q1⟩, q2, q3⟩ => ⟨⟨o, q1⟩, q2, key (.inl q1) q3⟩) (fun _ _ q => q) x v r
/-- an object set aside is changed -/
theorem RepV.own {D : Addr} {o : HO} (hD : D ∈ fr) {x : PV} {v : V} (r : RepV K ro fr H x v) : RepV K ro fr (upd H D o) x v := by
  have key : ∀ {a u}, Rd H a u → a ∉ fr → Rd (upd H D o) a u := fun {a u} r n => by
    have e : a ≠ D := fun z => n (z ▸ hD)
    rcases r with r | ⟨o, r⟩
    · exact .inl (by rw [upd_ne e]; exact r)
    · exact .inr ⟨o, by rw [upd_ne e]; exact r⟩
  have ne : ∀ {a}, a ∉ fr → a ≠ D := fun {a} n z => n (z ▸ hD)
  exact RepV.imp (fun a vs q => ⟨by rw [upd_ne (ne q.2.2)]; exact q.1, q.2⟩) (fun a vs q => q.imp (fun ⟨q1, q2, q3⟩ => ⟨key q1 q3, q2, q3⟩) id) (fun a vs q => q.imp (fun ⟨q1, q2, q3⟩ => ⟨key q1 q3, q2, q3⟩) id) (fun a vs q => ⟨by rw [upd_ne (ne q.2.2)]; exact q.1, q.2⟩) (fun a vs ⟨⟨o, q1, qd⟩, q2, q3⟩ => ⟨⟨o, by rw [upd_ne (ne q3)]; exact q1, qd⟩, q2, q3⟩) (fun a C vs ⟨⟨o, q1⟩, q2, q3⟩ => ⟨⟨o, by rw [upd_ne (ne q3)]; exact q1⟩, q2, q3⟩) (fun _ _ q => q) x v r
theorem RepVs.own {D : Addr} {o : HO} (hD : D ∈ fr) {x : List PV} {v : List V} (r : RepVs K ro fr H x v) : RepVs K ro fr (upd H D o) x v := by
  induction x generalizing v with
  | nil => cases r; exact .nil
  | cons y ys ih =>
    cases r with
    | cons r1 r2 => exact .cons (RepV.own hD r1) (ih r2)
/-- less set aside, one cell more -/
theorem RepV.less (h : ∀ a ∈ fr', a ∈ fr) (hn : ∀ a ∈ ro', a ∈ ro ∨ a ∈ fr) (hr : ∀ (n : Nat) a, ro[n]? = some a → ro'[n]? = some a) {x : PV} {v : V} (r : RepV K ro fr H x v) : RepV K ro' fr' H x v := by
  have key : ∀ {a}, a ∉ ro → a ∉ fr → a ∉ ro' := fun {a} n m z => (hn a z).elim n m
  exact RepV.imp (fun a vs q => ⟨q.1, key q.2.1 q.2.2, fun z => q.2.2 (h a z)⟩) (fun a vs q => q.imp (fun ⟨q1, q2, q3⟩ => ⟨q1, key q2 q3, fun z => q3 (h a z)⟩) id) (fun a vs q => q.imp (fun ⟨q1, q2, q3⟩ => ⟨q1, key q2 q3, fun z => q3 (h a z)⟩) id) (fun a vs q => ⟨q.1, key q.2.1 q.2.2, fun z => q.2.2 (h a z)⟩) (fun a vs ⟨q1, q2, q3⟩ => ⟨q1, key q2 q3, fun z => q3 (h a z)⟩) (fun a C vs ⟨q1, q2, q3⟩ => ⟨q1, key q2 q3, fun z => q3 (h a z)⟩) hr x v r
theorem RepVs.less (h : ∀ a ∈ fr', a ∈ fr) (hn : ∀ a ∈ ro', a ∈ ro ∨ a ∈ fr) (hr : ∀ (n : Nat) a, ro[n]? = some a → ro'[n]? = some a) {x : List PV} {v : List V} (r : RepVs K ro fr H x v) : RepVs K ro' fr' H x v := by
  induction x generalizing v with
  | nil => cases r; exact .nil
  | cons y ys ih =>
    cases r with
    | cons r1 r2 => exact .cons (RepV.less h hn hr r1) (ih r2)
theorem RepC.map {c : Cell} {a : Addr} (h : RepC K ro fr H c a) (he : H' a = H a) (hv : ∀ xs vs, RepVs K ro fr H xs vs → RepVs K ro' fr' H' xs vs) (hk : ∀ (c : Addr) (o : HO), H c = Option.some o → c ∉ ro → c ∉ fr → H' c = Option.some o ∧ c ∉ ro' ∧ c ∉ fr') : RepC K ro' fr' H' c a := by
  cases c with
  | lst xs => obtain ⟨vs, h, g⟩ := h; exact ⟨vs, he.trans h, hv _ _ g⟩
  | dk ks xs => obtain ⟨vs, h, g, k⟩ := h; exact ⟨vs, he.trans h, g, hv _ _ k⟩
  | dt ks xs => obtain ⟨φ, bs, h, g, k⟩ := h; exact ⟨φ, bs, he.trans h, g, hv _ _ k⟩
  | ins C ks xs => obtain ⟨dx, kvs, h, g, k⟩ := h; exact ⟨dx, kvs, he.trans h, g, hv _ _ k⟩
  | fdk o kvs ks xs => obtain ⟨h, g, k⟩ := h; exact ⟨he.trans h, g, hv _ _ k⟩
  | fdt o φ bs ks => obtain ⟨⟨h, g⟩, k⟩ := h; exact ⟨⟨he.trans h, g⟩, hv _ _ k⟩
  | tb x q =>
    obtain ⟨hc, ps, h, g, k⟩ := h
    refine ⟨hc, ps, he.trans h, g, fun pos cv hv => ?_⟩
    obtain ⟨c, e1, e2, e3, e4⟩ := k pos cv hv
    exact ⟨c, e1, hk c _ e2 e3 e4⟩
  | cap o c q vs xs =>
    obtain ⟨⟨h, e2, e3, e4⟩, k⟩ := h
    exact ⟨⟨he.trans h, hk c _ e2 e3 e4⟩, hv _ _ k⟩
theorem RepEnv.more {env : Envp} {σ : L2.St} (h : ∀ a ∈ fr', a ∈ fr ∨ H a = none) (E : RepEnv K ro fr H env σ) : RepEnv K ro fr' H env σ := ⟨E.1, fun i x q => let ⟨v, h1, h2⟩ := E.2 i x q; ⟨v, h1, h2.more h⟩⟩
theorem ext_own {D : Addr} {o : HO} (e : Ext ro H ro' H') (hD : H D = none) : Ext ro H ro' (upd H' D o) :=
  ⟨e.pre, fun a u h n => by rw [upd_ne (ne_of_none h hD)]; exact e.old a u h n, e.new⟩
variable {st : Sto}
theorem RepS.own {D : Addr} {o : HO} (S : RepS K ro fr H st) (hD : D ∈ fr) : RepS K ro fr (upd H D o) st where
  len := S.len
  nd := S.nd
  dis := S.dis
  at_ := fun n c a h1 h2 => (S.at_ n c a h1 h2).map (by rw [upd_ne]; intro z; subst z; exact S.dis a (List.mem_of_getElem? h2) hD) (fun _ _ => RepVs.own hD) fun c o e n m => ⟨by rw [upd_ne fun z => m (by rw [z]; exact hD)]; exact e, n, m⟩
  frT := fun a m => by
    by_cases e : a = D
    · subst e; exact ⟨_, upd_same⟩
    · obtain ⟨u, h⟩ := S.frT a m; exact ⟨u, by rw [upd_ne e]; exact h⟩
/-- a new object is set aside -/
theorem RepS.aside {D : Addr} {o : HO} (S : RepS K ro fr H st) (hD : H D = none) : RepS K ro (D :: fr) (upd H D o) st where
  len := S.len
  nd := S.nd
  dis := fun a m z => by
    rcases List.mem_cons.mp z with z | z
    · subst z; exact (S.fresh hD).1 m
    · exact S.dis a m z
  at_ := fun n c a h1 h2 => by
    have q := S.at_ n c a h1 h2
    obtain ⟨u, hu⟩ := q.some
    refine (q.map (H' := H) (fr' := D :: fr) (ro' := ro) rfl (fun _ _ r => r.more fun b m => (List.mem_cons.mp m).elim (fun z => .inr (z ▸ hD)) .inl) fun c o e n m => ⟨e, n, fun z => by
      rcases List.mem_cons.mp z with z | z
      · rw [z, hD] at e; cases e
      · exact m z⟩).ext (ext_new hD) (by rw [upd_ne (ne_of_none hu hD)])
  frT := fun a m => by
    by_cases e : a = D
    · subst e; exact ⟨_, upd_same⟩
    · obtain ⟨u, h⟩ := S.frT a ((List.mem_cons.mp m).resolve_left e); exact ⟨u, by rw [upd_ne e]; exact h⟩
theorem RepS.back {D : Addr} (S : RepS K ro (D :: fr) H st) : RepS K ro fr H st where
  len := S.len
  nd := S.nd
  dis := fun a m z => S.dis a m (List.mem_cons_of_mem _ z)
  at_ := fun n c a h1 h2 => (S.at_ n c a h1 h2).map rfl (fun _ _ => RepVs.less (fun a => List.mem_cons_of_mem _) (fun a => .inl) (fun _ _ h => h)) fun c o e n m => ⟨e, n, fun z => m (List.mem_cons_of_mem _ z)⟩
  frT := fun a m => S.frT a (List.mem_cons_of_mem _ m)
/-- what was set aside is a list now -/
theorem end_lst {ro1 : List Addr} {H1 : Hp} {D : Addr} {xs : List PV} {vs : List V} (m : Bool) {Q : PV → Sto → Prop} (e : Ext ro1 H1 ro H) (hD1 : H1 D = none) (hf : D ∉ fr) (S : RepS K ro (D :: fr) H st) (hD : H D = some (.lst vs)) (r : RepVs K ro (D :: fr) H xs vs) (q : newL m xs st Q) :
    Post K ro1 fr H1 Q (.ref D) H := by
  have hn : D ∉ ro := fun z => S.dis D z List.mem_cons_self
  cases m with
  | false =>
    exact ⟨ro, .lst xs, st, e, S.back, .lst ⟨hD, hn, hf⟩ (r.less (fun a => List.mem_cons_of_mem _) (fun a => .inl) fun _ _ h => h), q⟩
  | true =>
    have hg : ∀ (n : Nat) a, ro[n]? = some a → (ro ++ [D])[n]? = some a := fun n a h => by
      rw [List.getElem?_append_left (List.getElem?_eq_some_iff.mp h).1]; exact h
    have hm : ∀ a ∈ ro ++ [D], a ∈ ro ∨ a ∈ D :: fr := fun a m => (List.mem_append.mp m).elim .inl fun z => .inr (by rw [List.mem_singleton] at z; subst z; exact List.mem_cons_self)
    have lift : ∀ xs vs, RepVs K ro (D :: fr) H xs vs → RepVs K (ro ++ [D]) fr H xs vs := fun xs vs r => r.less (fun a => List.mem_cons_of_mem _) hm hg
    have q' : Q (.ref st.length) (st ++ [Cell.lst xs]) := q
    refine ⟨ro ++ [D], .ref st.length, st ++ [Cell.lst xs], ⟨?_, e.old, fun a m => ?_⟩, ⟨by simp [S.len], ?_, ?_, ?_, S.back.frT⟩, .ref (by rw [← S.len]; simp), q'⟩
    · obtain ⟨t, rfl⟩ := e.pre; exact ⟨t ++ [D], by simp⟩
    · rcases List.mem_append.mp m with m | m
      · exact e.new a m
      · rw [List.mem_singleton] at m; subst m; exact .inr hD1
    · rw [List.nodup_append]
      refine ⟨S.nd, by simp, fun a ha b hb => ?_⟩
      rw [List.mem_singleton] at hb; subst hb
      intro z; subst z; exact hn ha
    · intro a m
      rcases List.mem_append.mp m with m | m
      · exact S.back.dis a m
      · rw [List.mem_singleton] at m; subst m; exact hf
    · intro n c a h1 h2
      have hl := S.len
      by_cases hi : n < st.length
      · rw [List.getElem?_append_left hi] at h1
        rw [List.getElem?_append_left (by omega)] at h2
        exact (S.at_ n c a h1 h2).map rfl lift fun c o e n m => ⟨e, fun z => by
          rcases List.mem_append.mp z with z | z
          · exact n z
          · rw [List.mem_singleton] at z; exact m (by rw [z]; exact List.mem_cons_self), fun z => m (List.mem_cons_of_mem _ z)⟩
      · rw [List.getElem?_append_right (by omega)] at h1 h2
        have e1 : n - st.length = 0 := by
          have := (List.getElem?_eq_some_iff.mp h1).1
          simp at this; omega
        have e2 : n - ro.length = 0 := by omega
        rw [e1] at h1; rw [e2] at h2
        simp at h1 h2; subst h1; subst h2
        exact ⟨vs, hD, lift _ _ r⟩
end
structure PIt where
  items : List PV
  guard : Sto → Prop
def RepIt (K : PySem.W.Frag) (ro fr : List Addr) (H : Hp) (J : It) (p : PIt) : Prop := ∀ fr' ro' H' st', (∀ x v, RepV K ro fr H x v → RepV K ro' fr' H' x v) → RepS K ro' fr' H' st' → p.guard st' →
  (∀ i y, p.items[i]? = some y → J.go i H' ∧ ∀ v H'', J.yld i H' v H'' → Ext ro' H' ro' H'' ∧ RepS K ro' fr' H'' st' ∧ RepV K ro' fr' H'' y v) ∧ J.stop p.items.length H'
abbrev WI := Envp → Sto → (PIt → Sto → Prop) → Prop
structure DI (X : Cx) (tg iter : Expr) (w : WI) : Prop where
  run : ∀ ro fr σ H env st R, RepEnv X.K ro fr H env σ → RepS X.K ro fr H st → w env st R → tWI X tg iter σ H (fun J H' => ∃ ro' p st', Ext ro H ro' H' ∧ RepS X.K ro' fr H' st' ∧ RepIt X.K ro' fr H' J p ∧ R p st')
instance {X : Cx} {tg iter : Expr} {w : WI} : CoeFun (DI X tg iter w) (fun _ => ∀ ro fr σ H env st R, RepEnv X.K ro fr H env σ → RepS X.K ro fr H st → w env st R → tWI X tg iter σ H (fun J H' => ∃ ro' p st', Ext ro H ro' H' ∧ RepS X.K ro' fr H' st' ∧ RepIt X.K ro' fr H' J p ∧ R p st')) := ⟨DI.run⟩
def forGo (gd : Sto → Prop) (g : WG) (tb : WS) (D : EndsP) : List PV → Envp → Sto → Prop
  | [], env, st => gd st ∧ D.nx env st
  | x :: xs, env, st => gd st ∧ g x env st fun env2 st2 => tb { D with nx := forGo gd g tb D xs, ct := forGo gd g tb D xs, bk := D.nx } env2 st2
def sFor (wi : WI) (g : WG) (tb : WS) : WS := fun D env st => wi env st fun p st1 => forGo p.guard g tb D p.items env st1
def sWhile (c : WT) (tb : WS) : WS := fun D env st => ∃ W : Nat → Envp → Sto → Prop, (∃ m, W m env st) ∧ ∀ m env st, W m env st →
  c env st fun b st1 => if b = true then ∃ N : Envp → Sto → Prop, (∀ env' st', N env' st' → ∃ m', m' < m ∧ W m' env' st') ∧ tb { D with nx := N, ct := N, bk := D.nx } env st1 else D.nx env st1
section
variable {X : Cx} {tg iter c : Expr} {body : List Stmt} {wi : WI} {g : WG} {tb : WS} {t : WT} {sl : List Nat} {pos : Pos}
theorem ds_for (hp : PassesOwn (model X.prog X.w) X.A X.env X.xe) (hc : X.calm = true) (hi : DI X tg iter wi) (hg : DG X tg sl g) (hb : DSs X body tb) (hs : ∀ x, foldedSetIterable iter X.env x = pure x := by exact fold_no (by rfl)) :
    DS X (.For tg iter body [] pos) (sFor wi g tb) := by
  refine ⟨?_⟩
  intro ro fr σ H env st D E S T hw
  refine toWS (ps_for hp hc (pi_W X tg iter) (pg_W X tg) (pss_W X body) hs) ?_
  refine tWI.mono (hi _ _ _ _ _ _ _ E S hw) fun J H1 ⟨ro1, p, st1, e1, S1, it, go⟩ => ?_
  refine ⟨fun i m σ' H' => ∃ ro' env' st', Ext ro1 H1 ro' H' ∧ RepS X.K ro' fr H' st' ∧ RepEnv X.K ro' fr H' env' σ' ∧ i + m = p.items.length ∧ forGo p.guard g tb D (p.items.drop i) env' st', ⟨p.items.length, ro1, env, st1, .refl, S1, E.ext e1, by omega, by simpa using go⟩, ?_⟩
  rintro i m σ' H' ⟨ro', env', st', e', S', E', hm, go'⟩
  cases hd : p.items.drop i with
  | nil =>
    rw [hd] at go'
    have hi : i = p.items.length := by
      have := List.drop_eq_nil_iff.mp hd
      omega
    have q := it fr ro' H' st' (fun _ _ r => r.ext e') S' go'.1
    exact .inl ⟨by rw [hi]; exact q.2, ro', env', st', e1.trans e', S', E', go'.2⟩
  | cons y ys =>
    rw [hd] at go'
    have hlt : i < p.items.length := by
      by_cases z : i < p.items.length
      · exact z
      · rw [List.drop_eq_nil_of_le (by omega)] at hd; cases hd
    have hy : p.items[i]? = some y := by
      have : (p.items.drop i)[0]? = some y := by rw [hd]; rfl
      simpa using this
    have hys : p.items.drop (i + 1) = ys := by
      have := congrArg List.tail hd
      simpa using this
    obtain ⟨gd, go'⟩ := go'
    have q := (it fr ro' H' st' (fun _ _ r => r.ext e') S' gd).1 i y hy
    refine .inr ⟨q.1, PostN X.K ro1 fr H1 (forGo p.guard g tb D ys), fun σ2 H2 ⟨ro2, env2, st2, e2, S2, E2, q2⟩ => ⟨m - 1, by omega, ro2, env2, st2, e2, S2, E2, by omega, by rw [hys]; exact q2⟩, fun x H2 hyl => ?_⟩
    obtain ⟨e2, S2, r2⟩ := q.2 x H2 hyl
    refine tWG.mono (hg _ _ _ _ _ _ _ _ _ (E'.ext e2) S2 r2 go') fun σ3 H3 ⟨_, ro3, env3, st3, e3, S3, E3, q3⟩ => ?_
    have ee := (e'.trans e2).trans e3
    exact tWSs.mono (hb _ _ _ _ _ _ { D with nx := forGo p.guard g tb D ys, ct := forGo p.guard g tb D ys, bk := D.nx } E3 S3 (T.ext (e1.trans ee)) q3) (fun _ _ h => h.ext ee) (fun _ _ h => (h.ext ee).ext e1) (fun _ _ h => (h.ext ee).ext e1) (fun _ _ h => h.ext ee)
end
def wipeP (env : Envp) : List Nat → Envp
  | [] => env
  | v :: vs => (wipeP env vs).set v none
theorem wipeP_length (env : Envp) : ∀ vs : List Nat, (wipeP env vs).length = env.length
  | [] => rfl
  | v :: vs => by unfold wipeP; rw [List.length_set, wipeP_length env vs]
theorem wipeP_some {env : Envp} {i : Nat} {x : PV} : ∀ {vs : List Nat}, (wipeP env vs)[i]? = some (some x) → env[i]? = some (some x) ∧ i ∉ vs
  | [], h => ⟨h, by simp⟩
  | v :: vs, h => by
    unfold wipeP at h
    by_cases hi : v = i
    · subst hi
      by_cases hv : v < (wipeP env vs).length
      · rw [List.getElem?_set_self hv] at h; cases h
      · rw [List.getElem?_eq_none (by simpa using hv)] at h; cases h
    · rw [List.getElem?_set_ne hi] at h
      obtain ⟨h1, h2⟩ := wipeP_some h
      exact ⟨h1, by simp only [List.mem_cons, not_or]; exact ⟨fun e => hi e.symm, h2⟩⟩
theorem RepEnv.wipe {K : PySem.W.Frag} {ro fr : List Addr} {H : Hp} {env : Envp} {σ : L2.St} (E : RepEnv K ro fr H env σ) (vs : List Nat) : RepEnv K ro fr H (wipeP env vs) (wipe σ vs) := by
  refine ⟨by rw [wipeP_length, wipe_length, E.1], fun i x h => ?_⟩
  obtain ⟨h1, h2⟩ := wipeP_some h
  obtain ⟨v, q1, q2⟩ := E.2 i x h1
  exact ⟨v, by rw [wipe_out h2]; exact q1, q2⟩
theorem wipe_in {σ : L2.St} {i : Nat} (hi : i < σ.length) : ∀ {vs : List Nat}, i ∈ vs → (wipe σ vs)[i]? = some none
  | v :: vs, h => by
    unfold wipe
    by_cases e : v = i
    · subst e
      rw [List.getElem?_set_self (by rw [wipe_length]; exact hi)]
    · rw [List.getElem?_set_ne e]
      exact wipe_in hi ((List.mem_cons.mp h).resolve_left fun z => e z.symm)
theorem wipe_apart {σ σ2 : L2.St} {sl vs : List Nat} (h : Apart sl (wipe σ vs) σ2) (hs : ∀ i ∈ sl, i ∈ vs) : wipe σ2 vs = wipe σ vs := by
  have hl : σ2.length = σ.length := h.1.trans (wipe_length _ _)
  refine List.ext_getElem? fun i => ?_
  by_cases hi : i ∈ vs
  · by_cases hlt : i < σ.length
    · rw [wipe_in hlt hi, wipe_in (by omega) hi]
    · rw [List.getElem?_eq_none (by rw [wipe_length]; omega), List.getElem?_eq_none (by rw [wipe_length]; omega)]
  · rw [wipe_out hi, h.2 i fun z => hi (hs i z)]
def tWTs (X : Cx) (ifs : List Expr) : TT := fun σ H Q => ∀ pins s, Inv X pins σ H s → wpAny (model X.prog X.w) X.A (forIn ifs true fun c r => if r = true then do let ok ← isTrue c X.env (eval c X.env); pure (ForInStep.yield ok) else pure (ForInStep.yield r)) (TP X pins σ Q) X.xe s
theorem tWTs.mono {X : Cx} {ifs : List Expr} {σ : L2.St} {H : Hp} {Q Q' : Bool → Hp → Prop} (h : tWTs X ifs σ H Q) (hQ : ∀ v H, Q v H → Q' v H) : tWTs X ifs σ H Q' := fun pins s I => thn (h pins s I) fun _ _ ⟨H', I, q⟩ => ⟨H', I, hQ _ _ q⟩
structure DTs (X : Cx) (e : List Expr) (w : WT) : Prop where
  run : ∀ ro fr σ H env st Q, RepEnv X.K ro fr H env σ → RepS X.K ro fr H st → w env st Q → tWTs X e σ H (PostT X.K ro fr H Q)
instance {X : Cx} {e : List Expr} {w : WT} : CoeFun (DTs X e w) (fun _ => ∀ ro fr σ H env st Q, RepEnv X.K ro fr H env σ → RepS X.K ro fr H st → w env st Q → tWTs X e σ H (PostT X.K ro fr H Q)) := ⟨DTs.run⟩
def tYesP : WT := fun _ st Q => Q true st
theorem dts_nil {X : Cx} : DTs X [] tYesP := .mk fun ro fr σ H env st Q E S q pins s I => pts_nil.run pins s σ H _ I ⟨ro, st, .refl, S, q⟩
def lcGo (gd : Sto → Prop) (g : WG) (tt : WT) (te : WE) (env : Envp) : List PV → List PV → Sto → (List PV → Sto → Prop) → Prop
  | [], acc, st, k => gd st ∧ k acc st
  | x :: xs, acc, st, k => gd st ∧ g x env st fun env2 st2 => tt env2 st2 fun b st3 => if b = true then te env2 st3 fun y st4 => acc.length < sizeLine ∧ lcGo gd g tt te env xs (acc ++ [y]) st4 k else lcGo gd g tt te env xs acc st3 k
def wLc (m : Bool) (wi : WI) (g : WG) (tt : WT) (te : WE) (vs : List Nat) : WE := fun env st Q => wi env st fun p st1 => lcGo p.guard g tt te (wipeP env vs) p.items [] st1 fun acc st2 => newL m acc st2 Q
section
variable {X : Cx} {tg iter elt : Expr} {ifs : List Expr} {wi : WI} {g : WG} {tt : WT} {te : WE} {sl : List Nat} {pos : Pos} {scope : Scope} {own : List (Str × Nat)}
def gAll (X : Cx) (scope : Scope) (tg : Expr) : TG := fun v σ H Q => ∀ (s : Shared) (H0 : Hp) (C : Addr) (cl : List (Str × Addr)) (fp : List Addr), tWG (X.blk s H0 scope (compEnvC scope cl C X.env) fp) tg v σ H Q
def tAll (X : Cx) (scope : Scope) (ifs : List Expr) : TT := fun σ H Q => ∀ (s : Shared) (H0 : Hp) (C : Addr) (cl : List (Str × Addr)) (fp : List Addr), tWTs (X.blk s H0 scope (compEnvC scope cl C X.env) fp) ifs σ H Q
def eAll (X : Cx) (scope : Scope) (e : Expr) : TE := fun σ H Q => ∀ (s : Shared) (H0 : Hp) (C : Addr) (cl : List (Str × Addr)) (fp : List Addr), tW (X.blk s H0 scope (compEnvC scope cl C X.env) fp) e σ H Q
theorem lc_read {ro fr : List Addr} {σ : L2.St} {H : Hp} {env : Envp} {st : Sto} {Q : PV → Sto → Prop} {vs : List Nat} (m : Bool) (hi : DI X tg iter wi)
    (hg : ∀ (s : Shared) (H : Hp) (C : Addr) (cl : List (Str × Addr)) (fp : List Addr), DG (X.blk s H scope (compEnvC scope cl C X.env) fp) tg sl g) (hsl : ∀ i ∈ sl, i ∈ vs)
    (ht : ∀ (s : Shared) (H : Hp) (C : Addr) (cl : List (Str × Addr)) (fp : List Addr), DTs (X.blk s H scope (compEnvC scope cl C X.env) fp) ifs tt)
    (he : ∀ (s : Shared) (H : Hp) (C : Addr) (cl : List (Str × Addr)) (fp : List Addr), DE (X.blk s H scope (compEnvC scope cl C X.env) fp) elt te)
    (E : RepEnv X.K ro fr H env σ) (S : RepS X.K ro fr H st) (hw : wLc m wi g tt te vs env st Q) :
    tLc (tWI X tg iter) (gAll X scope tg) (tAll X scope ifs) (eAll X scope elt) vs σ H (Post X.K ro fr H Q) := by
  refine tWI.mono (hi _ _ _ _ _ _ _ E S hw) fun J H1 ⟨ro1, p, st1, e1, S1, it, go⟩ => ?_
  intro D hD
  have hDf : D ∉ fr := (S1.fresh hD).2
  have frs : ∀ a ∈ D :: fr, a ∈ fr ∨ H1 a = none := fun a m => (List.mem_cons.mp m).elim (fun z => .inr (z ▸ hD)) .inl
  refine ⟨fun i k H' => ∃ ro' st' acc us, Ext ro1 H1 ro' H' ∧ RepS X.K ro' (D :: fr) H' st' ∧ H' D = some (.lst us) ∧ RepVs X.K ro' (D :: fr) H' acc us ∧ i + k = p.items.length ∧ lcGo p.guard g tt te (wipeP env vs) (p.items.drop i) acc st' (fun acc st2 => newL m acc st2 Q),
    ⟨p.items.length, ro1, st1, [], [], ext_new hD, S1.aside hD, upd_same, .nil, by omega, by simpa using go⟩, ?_⟩
  rintro i k H' ⟨ro', st', acc, us, e', S', hD', ra, hm, go'⟩
  cases hd : p.items.drop i with
  | nil =>
    rw [hd] at go'
    have hi : i = p.items.length := by
      have := List.drop_eq_nil_iff.mp hd
      omega
    have q := it (D :: fr) ro' H' st' (fun _ _ r => (r.more frs).ext e') S' go'.1
    exact .inl ⟨by rw [hi]; exact q.2, (end_lst m e' hD hDf S' hD' ra go'.2).ext e1⟩
  | cons y ys =>
    rw [hd] at go'
    have hlt : i < p.items.length := by
      by_cases z : i < p.items.length
      · exact z
      · rw [List.drop_eq_nil_of_le (by omega)] at hd; cases hd
    have hy : p.items[i]? = some y := by
      have : (p.items.drop i)[0]? = some y := by rw [hd]; rfl
      simpa using this
    have hys : p.items.drop (i + 1) = ys := by
      have := congrArg List.tail hd
      simpa using this
    obtain ⟨gd, go'⟩ := go'
    have q := (it (D :: fr) ro' H' st' (fun _ _ r => (r.more frs).ext e') S' gd).1 i y hy
    refine .inr ⟨q.1, fun H2 => ∃ ro' st' acc us, Ext ro1 H1 ro' H2 ∧ RepS X.K ro' (D :: fr) H2 st' ∧ H2 D = some (.lst us) ∧ RepVs X.K ro' (D :: fr) H2 acc us ∧ lcGo p.guard g tt te (wipeP env vs) ys acc st' (fun acc st2 => newL m acc st2 Q),
      fun H2 ⟨ro2, st2, acc2, us2, a1, a2, a3, a4, a5⟩ => ⟨k - 1, by omega, ro2, st2, acc2, us2, a1, a2, a3, a4, by omega, by rw [hys]; exact a5⟩, fun x H2 hyl => ?_⟩
    obtain ⟨e2, S2, r2⟩ := q.2 x H2 hyl
    have nD : ∀ {ro2 : List Addr} {H2 : Hp} {st2 : Sto}, RepS X.K ro2 (D :: fr) H2 st2 → D ∉ ro2 := fun S z => S.dis D z List.mem_cons_self
    have E2 : RepEnv X.K ro' (D :: fr) H2 (wipeP env vs) (wipe σ vs) := ((((E.ext e1).wipe vs).more frs).ext (e'.trans e2))
    intro s0 H0 C cl fp
    refine tWG.mono (hg s0 H0 C cl fp _ _ _ _ _ _ _ _ _ E2 S2 r2 go') fun σ3 H3 ⟨a3, ro3, env3, st3, e3, S3, E3, q3⟩ => ⟨wipe_apart a3 hsl, ?_⟩
    intro s1 H0 C cl fp
    refine tWTs.mono (ht s1 H0 C cl fp _ _ _ _ _ _ _ E3 S3 q3) fun b H4 ⟨ro4, st4, e4, S4, q4⟩ => ?_
    have hD2 : H2 D = some (.lst us) := e2.old _ _ hD' (nD S')
    have hD3 : H3 D = some (.lst us) := e3.old _ _ hD2 (nD S2)
    have hD4 : H4 D = some (.lst us) := e4.old _ _ hD3 (nD S3)
    cases b with
    | false =>
      rw [if_neg Bool.false_ne_true] at q4 ⊢
      exact ⟨ro4, st4, acc, us, ((e'.trans e2).trans e3).trans e4, S4, hD4, ((ra.ext e2).ext e3).ext e4, q4⟩
    | true =>
      rw [if_pos rfl] at q4 ⊢
      intro s2 H0 C cl fp
      refine tW.mono (he s2 H0 C cl fp _ _ _ _ _ _ _ (E3.ext e4) S4 q4) fun v H5 ⟨ro5, y5, st5, e5, S5, r5, hl, q5⟩ => ?_
      have hD5 : H5 D = some (.lst us) := e5.old _ _ hD4 (nD S4)
      have ra5 := (((ra.ext e2).ext e3).ext e4).ext e5
      refine ⟨us, hD5, by rw [← ra.length]; exact hl, ro5, st5, acc ++ [y5], us ++ [v], ext_own ((((e'.trans e2).trans e3).trans e4).trans e5) hD, S5.own List.mem_cons_self, upd_same, ?_, q5⟩
      exact (ra5.own List.mem_cons_self).append (.cons (r5.own List.mem_cons_self) .nil)
theorem d_lc (m : Bool) (hc : X.calm = true) (hN : X.N.Nodup) (hi : DI X tg iter wi) (ok : BlkOk X.N X.env.scope scope own)
    (hg : ∀ (s : Shared) (H : Hp) (C : Addr) (cl : List (Str × Addr)) (fp : List Addr), DG (X.blk s H scope (compEnvC scope cl C X.env) fp) tg sl g) (hsl : ∀ i ∈ sl, i ∈ own.map (·.2))
    (ht : ∀ (s : Shared) (H : Hp) (C : Addr) (cl : List (Str × Addr)) (fp : List Addr), DTs (X.blk s H scope (compEnvC scope cl C X.env) fp) ifs tt)
    (he : ∀ (s : Shared) (H : Hp) (C : Addr) (cl : List (Str × Addr)) (fp : List Addr), DE (X.blk s H scope (compEnvC scope cl C X.env) fp) elt te) (hs : ∀ x, foldedSetIterable iter X.env x = pure x := by exact fold_no (by rfl)) :
    DE X (.ListComp elt [⟨tg, iter, ifs, 0⟩] scope pos) (wLc m wi g tt te (own.map (·.2))) := .mk fun ro fr σ H env st Q E S hw =>
  toW (pe_lc (g := gAll X scope tg) (tt := tAll X scope ifs) (te := eAll X scope elt) hc hN (pi_W X tg iter) ok (fun s H C cl fp => ⟨fun pins s1 σ H v u Q I r h => h s _ C cl fp pins s1 u I r⟩) (fun s H C cl fp => ⟨fun pins s1 σ H Q I h => h s _ C cl fp pins s1 I⟩) (fun s H C cl fp => ⟨fun pins s1 σ H Q I h => h s _ C cl fp pins s1 I⟩) hs)
    (lc_read m hi hg hsl ht he E S hw)
theorem ds_setLc (m : Bool) {i : Nat} {y : Str} {py spos : Pos} (hc : X.calm = true) (hN : X.N.Nodup) (hy : X.N[i]? = some y) (hyl : X.env.scope.names.lookup y = some .local)
    (hsw : swapsWith (.ListComp elt [⟨tg, iter, ifs, 0⟩] scope pos) (some (.Name y py)) spos.line X.env = pure true) (hi : DI X tg iter wi) (ok : BlkOk X.N X.env.scope scope own)
    (hg : ∀ (s : Shared) (H : Hp) (C : Addr) (cl : List (Str × Addr)) (fp : List Addr), DG (X.blk s H scope (compEnvC scope cl C X.env) fp) tg sl g) (hsl : ∀ i ∈ sl, i ∈ own.map (·.2))
    (ht : ∀ (s : Shared) (H : Hp) (C : Addr) (cl : List (Str × Addr)) (fp : List Addr), DTs (X.blk s H scope (compEnvC scope cl C X.env) fp) ifs tt)
    (he : ∀ (s : Shared) (H : Hp) (C : Addr) (cl : List (Str × Addr)) (fp : List Addr), DE (X.blk s H scope (compEnvC scope cl C X.env) fp) elt te) (hs : ∀ x, foldedSetIterable iter X.env x = pure x := by exact fold_no (by rfl)) :
    DS X (.Assign [.Name y py] (.ListComp elt [⟨tg, iter, ifs, 0⟩] scope pos) spos) (sAsg (wLc m wi g tt te (own.map (·.2))) (gNm i)) := .mk fun ro fr σ H env st D E S T hw => by
  refine toWS (ps_setLc (g := gAll X scope tg) (tt := tAll X scope ifs) (te := eAll X scope elt) hc hN hy hyl hsw (pi_W X tg iter) ok (fun s H C cl fp => ⟨fun pins s1 σ H v u Q I r h => h s _ C cl fp pins s1 u I r⟩) (fun s H C cl fp => ⟨fun pins s1 σ H Q I h => h s _ C cl fp pins s1 I⟩) (fun s H C cl fp => ⟨fun pins s1 σ H Q I h => h s _ C cl fp pins s1 I⟩) hs) ?_
  have q := lc_read (elt := elt) (ifs := ifs) m hi hg hsl ht he E S (Q := fun x st1 => gNm i x env st1 D.nx) hw
  -- the list's end is wanted behind the store
  refine tWI.mono q fun J H1 h D0 hD0 => ?_
  obtain ⟨W, w0, turn⟩ := h D0 hD0
  refine ⟨W, w0, fun j m H hW => (turn j m H hW).imp (fun ⟨a, ro2, x, st2, e2, S2, r2, q2⟩ => ⟨a, ro2, _, st2, e2, S2, (E.ext e2).set r2, q2⟩) id⟩
end
abbrev Spc := List PV → Sto → (PV → Sto → Prop) → Prop
def spOf (K : PySem.W.Frag) (n : Nat) (S : Spc) : Sp := fun vs H Q _ => ∃ ro fr xs st Qp, RepVs K ro fr H xs vs ∧ RepS K ro fr H st ∧ xs.length = n ∧ S xs st Qp ∧ ∀ v H', Post K ro fr H Qp v H' → Q v H'
/-- a def's promise, where no guard of a repr stands -/
structure FnG (P : Program) (w : World) (K : PySem.W.Frag) (mg : Str → Option Value) (base : Heap) (k : Nat) (f : Addr) (fd : FuncData) (ps : List Str) (sp : Sp) : Prop where
  len : ∀ vs H Q E, sp vs H Q E → vs.length = ps.length
  run : ∀ (A : Around) (outer : List Env) (s : Shared) (H : Hp) (args : Args) (us : List Value) (vs : List V) (Q : VK), Room k A → A.guards = some [] → Env0 P w K mg base A outer s H → BindsTo s fd args (ps.zip us) → Vals vs us → sp vs H Q E0 →
    codeAny (model P w) A (.call (.ref f) args) (CR CX0 outer P w H s Q E0) s
theorem FnG.mono {P : Program} {w : World} {K : PySem.W.Frag} {mg : Str → Option Value} {base : Heap} {j k : Nat} {f : Addr} {fd : FuncData} {ps : List Str} {sp : Sp} (F : FnG P w K mg base j f fd ps sp) (h : j ≤ k) :
    FnG P w K mg base k f fd ps sp := ⟨F.len, fun A outer s H args us vs Q hr => F.run A outer s H args us vs Q (hr.mono h)⟩
theorem FnG.imp {P : Program} {w : World} {K : PySem.W.Frag} {mg : Str → Option Value} {base : Heap} {k n : Nat} {f : Addr} {fd : FuncData} {ps : List Str} {S S' : Spc} (F : FnG P w K mg base k f fd ps (spOf K n S))
    (h : ∀ xs st Q, xs.length = n → S' xs st Q → S xs st Q) : FnG P w K mg base k f fd ps (spOf K n S') := by
  have up : ∀ vs H Q E, spOf K n S' vs H Q E → spOf K n S vs H Q E := fun vs H Q E ⟨ro, fr, xs, st, Qp, a, b, c, d, e⟩ => ⟨ro, fr, xs, st, Qp, a, b, c, h _ _ _ c d, e⟩
  exact ⟨fun vs H Q E q => F.len vs H Q E (up _ _ _ _ q), fun A outer s H args us vs Q hr hg he hb hv hs => F.run A outer s H args us vs Q hr hg he hb hv (up _ _ _ _ hs)⟩
/-- the context's facts -/
structure XG (k : Nat) (X : Cx) : Prop where
  room : Room k X.A
  gd : X.A.guards = some []
  calm : X.calm = true
  sl : X.A.units + 16 * k + 210 < cLine
def wCall (n : Nat) (S : Spc) (wa : WA) : WE := fun env st Q => wa env st fun xs st1 => xs.length = n ∧ S xs st1 Q
section
variable {X : Cx} {k n : Nat} {f : Addr} {fd : FuncData} {ps : List Str} {S : Spc} {x : Str} {p pos : Pos} {e : Expr} {es : List Expr} {wa : WA}
theorem run_g {pins : List (Addr × Obj)} {σ : L2.St} {H : Hp} {s : Shared} {Q : VK} {us : List Value} {vs : List V} {sp : Sp} {ds : List Value} {dvs : List V} (F : FnG X.prog X.w X.K X.mg X.base k f fd ps sp) (hr : XG k X) (hb : Binds X.K fd ps ds) (hd : Vals dvs ds)
    (I : Inv X pins σ H s) (r : Vals vs us) (h : sp (vs ++ dvs) H Q E0) : wpAny (model X.prog X.w) X.A (call (.ref f) us) (EP X pins σ Q) X.xe s := by
  have r2 : Vals (vs ++ dvs) (us ++ ds) := r.append hd
  have hl : (us ++ ds).length = ps.length := by rw [← r2.length]; exact F.len _ _ _ _ h
  refine wpAny_call (codeAny_mono (F.run X.A X.stack s H ⟨us, []⟩ (us ++ ds) (vs ++ dvs) Q hr.room hr.gd I.env0 (hb s us I.kIn hl) r2 h) fun r s' hq => ?_)
  cases r with
  | error e => exact False.elim hq
  | ok fl =>
    cases fl with
    | ret u => exact I.after hq
    | next => exact False.elim hq
    | brk => exact False.elim hq
    | cont => exact False.elim hq
theorem pe_callG {sp : Sp} {ds : List Value} {dvs : List V} {t : TA} (F : FnG X.prog X.w X.K X.mg X.base k f fd ps sp) (hr : XG k X) (hg : Gl X x) (hm : X.mg x = some (.ref f)) (hk : PySem.W.keepIn X.K (.ref f) = true) (hb : Binds X.K fd ps ds) (hd : Vals dvs ds)
    (ha : PA X (e :: es) t) (hdb : (x == ("__debug__" : Str)) = false := by decide +kernel) (he : starEach (e :: es) X.env = (false, eval e X.env) :: starEach es X.env := by exact star_cons (by rfl)) (hpl : (backTo pos (starEach es X.env)).any (·.1) = false := by exact star_plain (by rfl)) :
    PE X (.Call (.Name x p) (e :: es) [] pos) (tCall sp dvs E0 t) := by
  refine ⟨fun pins s σ H Q I h => ?_⟩
  refine wpAny_Call_Name_kw (ld_glob I hg hm ?_ hdb)
  refine PySem.W.callWith_K (h₀ := X.base) I.ok.mod.kin hk (thn (ha.run pos pins s σ H _ I h) fun us s1 ⟨vs, H1, I1, r, q⟩ => ⟨I1.kIn, ?_⟩) he hpl
  exact run_g F hr hb hd I1 r q
theorem d_call (F : FnG X.prog X.w X.K X.mg X.base k f fd ps (spOf X.K n S)) (hr : XG k X) (hg : Gl X x) (hm : X.mg x = some (.ref f)) (hk : PySem.W.keepIn X.K (.ref f) = true) (hb : Binds X.K fd ps [])
    (ha : DA X (e :: es) wa) (hdb : (x == ("__debug__" : Str)) = false := by decide +kernel) (he : starEach (e :: es) X.env = (false, eval e X.env) :: starEach es X.env := by exact star_cons (by rfl)) (hpl : (backTo pos (starEach es X.env)).any (·.1) = false := by exact star_plain (by rfl)) :
    DE X (.Call (.Name x p) (e :: es) [] pos) (wCall n S wa) := by
  refine ⟨?_⟩
  intro ro fr σ H env st Q E St hw
  refine toW (pe_callG F hr hg hm hk hb .nil (pa_W X _) hdb he hpl) ?_
  refine tWA.mono (ha _ _ _ _ _ _ _ E St hw) fun vs H1 ⟨ro1, xs, st1, e1, S1, r1, h1, h2⟩ => ?_
  exact ⟨ro1, fr, xs, st1, Q, by simpa using r1, S1, h1, h2, fun v H' h => h.ext e1⟩
def startP (N : List Str) (xs : List PV) : Envp := xs.map some ++ List.replicate (N.length - xs.length) none
theorem RepEnv.start {K : PySem.W.Frag} {ro fr : List Addr} {H : Hp} {N : List Str} {xs : List PV} {vs : List V} (r : RepVs K ro fr H xs vs) : RepEnv K ro fr H (startP N xs) (L2.start N vs) := by
  have hl := r.length
  refine ⟨by unfold startP L2.start; simp [hl], fun i x h => ?_⟩
  unfold startP at h
  by_cases hi : i < xs.length
  · rw [List.getElem?_append_left (by simpa using hi), List.getElem?_map] at h
    cases e : xs[i]? with
    | none => rw [e] at h; cases h
    | some y =>
      rw [e] at h; cases h
      obtain ⟨v, h1, h2⟩ := r.get e
      refine ⟨v, ?_, h2⟩
      unfold L2.start
      rw [List.getElem?_append_left (by simp; omega), List.getElem?_map, h1]; rfl
  · rw [List.getElem?_append_right (by simpa using hi), List.getElem?_replicate] at h
    split at h <;> cases h
theorem fn_g {P : Program} {w : World} {K : PySem.W.Frag} {mg : Str → Option Value} {base : Heap} {k : Nat} {f : Addr} {name qual : Str} {params : Arguments} {body : List Stmt} {scope : Scope} {dV kV doc pm cdv ct oc : Value} {an od : Option Addr}
    {osl : Array (Option Value)} {N ps : List Str} {sp : Sp} (lk : K.lookup f = some ⟨oc, od, .func (PySem.W.fnOf name qual params body scope dV kV doc pm an cdv ct), osl⟩) (hcd : PySem.W.codeIn K cdv qual = true) (S : FnScope N ps scope)
    (len : ∀ vs H Q E, sp vs H Q E → vs.length = ps.length)
    (hbody : ∀ (A : Around) (outer : List Env) (s : Shared) (H : Hp) (vs : List V) (Q : VK), Room k (A.deeper (PyProof.Rows.envOfC qual scope s.heap.objs.size f cdv)) → (A.deeper (PyProof.Rows.envOfC qual scope s.heap.objs.size f cdv)).guards = some [] ∧ (A.deeper (PyProof.Rows.envOfC qual scope s.heap.objs.size f cdv)).units + 16 * k + 210 < cLine → sp vs H Q E0 →
      ∃ t, PSs (cxOf CX0 P w K mg base N qual scope f cdv A outer s H E0) body t ∧ t { nx := fun _ H' => Q .non H', rt := Q } (L2.start N vs) H) :
    FnG P w K mg base (k + 1) f (PySem.W.fnOf name qual params body scope dV kV doc pm an cdv ct) ps sp := by
  refine ⟨len, fun A outer s H args us vs Q hr hgd e0 hb r hsp => ?_⟩
  have hl := len _ _ _ _ hsp
  have KX : K.In s.heap := e0.mod.kin.keeps fun b o e => (e0.bs b o e).1
  have lim : s.heap.NoLimit := e0.mod.nolimit.keeps fun b o e => (e0.bs b o e).1
  have hkind : ∀ y ∈ ps.zip us, scope.names.lookup y.1 = some .local ∨ (scope.names.lookup y.1 = some .cell ∧ ((cellsFrom (s.heap.objs.size + 1) scope.names []).lookup y.1).isSome = true) := fun ⟨n, v⟩ hy => by
    rcases S.par n (List.of_mem_zip hy).1 with q | q
    · exact .inl q
    · exact .inr ⟨q, PySem.W.cellsFrom_some _ _ _ (.inl q)⟩
  refine codeAny_call_function hr.depth (KX _ _ lk) rfl S.co S.gen rfl (PySem.W.codeRec_of KX hcd) (hb _ _ _ _ ?_)
  refine wpAny_newFunctionEnv_cells S.kind hkind fun env he s1 x => ?_
  subst he
  refine ⟨lim.keeps x.toInCall.keep, codeAny_func ?_⟩
  have hgd2 : (A.deeper (PyProof.Rows.envOfC qual scope s.heap.objs.size f cdv)).guards = some [] := by first | exact hgd | simpa [Around.deeper] using hgd
  obtain ⟨t, ht, hq⟩ := hbody A outer s H vs Q (hr.deeper _) ⟨hgd2, by have := hr.un; show A.units + 3 + 16 * k + 210 < cLine; omega⟩ hsp
  have I : Inv (cxOf CX0 P w K mg base N qual scope f cdv A outer s H E0) [] (L2.start N vs) H s1 := inv_start S hr.hd e0 hl r x
  refine wpAny_mono (ht.run [] s1 (L2.start N vs) H _ I hq) (fun fl s' hs => ?_) fun e s' hs => hs
  have fin : ∀ {σ' : L2.St} {H' : Hp} {v : V} {u : Value}, Inv (cxOf CX0 P w K mg base N qual scope f cdv A outer s H E0) [] σ' H' s' → RelV v u → Q v H' → CE outer P w H s Q u s' :=
    fun {σ' H' v u} J rv q => ⟨v, H', J.os, J.bare, J.base, J.hok, rv, q⟩
  cases fl with
  | ret u =>
    obtain ⟨v, σ', H', J, rv, q⟩ := hs
    exact fin J rv q
  | next =>
    obtain ⟨σ', H', J, q⟩ := hs
    exact fin (v := V.non) (u := Value.none) J rfl q
  | brk =>
    obtain ⟨_, _, _, q⟩ := hs
    exact False.elim q
  | cont =>
    obtain ⟨_, _, _, q⟩ := hs
    exact False.elim q
theorem fn_ok {P : Program} {w : World} {K : PySem.W.Frag} {mg : Str → Option Value} {base : Heap} {x qual : Str} {st : Stmt} {N ps : List Str} {k n : Nat} {S : Spc} {f : Addr} {fd : FuncData} (F : Fun K x qual st f fd) (sc : FnScope N ps (defScope st)) (hn : n = ps.length) {wb : WS}
    (hd : ∀ (cdv : Value) (A : Around) (outer : List Env) (s : Shared) (H : Hp), XG k (cxOf CX0 P w K mg base N qual (defScope st) f cdv A outer s H E0).nox → DSs (cxOf CX0 P w K mg base N qual (defScope st) f cdv A outer s H E0).nox (defBody st) wb)
    (hS : ∀ xs sto Q, xs.length = n → S xs sto Q → wb { nx := fun _ st' => Q .non st', rt := Q } (startP N xs) sto) : FnG P w K mg base (k + 1) f fd ps (spOf K n S) := by
  obtain ⟨oc, od, kV, doc, pm, an, cdv, ct, osl, rfl, lk, hcd⟩ := F.ex
  refine fn_g lk hcd sc (fun vs H Q E h => ?_) (fun A outer s H vs Q hr hgd h => ?_)
  · obtain ⟨ro, fr, xs, sto, Qp, r, _, hl, _⟩ := h
    rw [← r.length, hl, hn]
  · obtain ⟨ro, fr, xs, sto, Qp, r, RS, hl, hs, post⟩ := h
    refine ⟨_, (pss_W (cxOf CX0 P w K mg base N qual (defScope st) f cdv A outer s H E0).nox _).nox, ?_⟩
    refine tWSs.mono (hd cdv A outer s H ⟨hr, hgd.1, rfl, hgd.2⟩ _ _ _ _ _ _ _ (RepEnv.start r) RS TK.no (hS xs sto Qp hl hs)) ?_ (fun v H' h => post v H' h) (fun _ _ ⟨_, _, _, _, _, _, h⟩ => h.elim) (fun _ _ ⟨_, _, _, _, _, _, h⟩ => h.elim)
    rintro σ' H' ⟨ro', env', st', e', S', E', q⟩
    exact post .non H' ⟨ro', .non, st', e', S', .non, q⟩
end
end Pv
namespace Pv
open PySem PySem.Spec L2
def lstS (st : Sto) : PV → Option (List PV)
  | .lst xs => some xs
  | .ref n => match st[n]? with
    | some (.lst xs) => some xs
    | _ => none
  | _ => none
def lstP (st : Sto) : PV → Option (List PV)
  | .fls xs => some xs
  | x => lstS st x
def seqP (st : Sto) : PV → Option (List PV)
  | .tup xs => some xs
  | x => lstP st x
section
variable {K : PySem.W.Frag} {ro fr : List Addr} {H : Hp} {st : Sto} {x : PV} {v : V} {xs : List PV}
theorem lstS_at (S : RepS K ro fr H st) (r : RepV K ro fr H x v) (h : lstS st x = some xs) : ∃ a vs, v = .ref a ∧ H a = some (.lst vs) ∧ RepVs K ro fr H xs vs := by
  cases r with
  | lst h1 h2 => simp only [lstS, Option.some.injEq] at h; subst h; exact ⟨_, _, rfl, h1.1, h2⟩
  | @ref a n h1 =>
    simp only [lstS] at h
    split at h
    · rename_i c hc
      cases h
      obtain ⟨vs, q1, q2⟩ := S.at_ n _ a hc h1
      exact ⟨a, vs, rfl, q1, q2⟩
    · cases h
  | _ => cases h
theorem lstP_at (S : RepS K ro fr H st) (r : RepV K ro fr H x v) (h : lstP st x = some xs) : ∃ a vs, v = .ref a ∧ SqL K H a vs ∧ RepVs K ro fr H xs vs := by
  cases r with
  | fls h1 h2 => simp only [lstP, Option.some.injEq] at h; subst h; exact ⟨_, _, rfl, h1.sq, h2⟩
  | lst h1 h2 => obtain ⟨a, vs, q, q2, q3⟩ := lstS_at S (.lst h1 h2) h; exact ⟨a, vs, q, SqL.of q2, q3⟩
  | ref h1 => obtain ⟨a, vs, q, q2, q3⟩ := lstS_at S (.ref h1) h; exact ⟨a, vs, q, SqL.of q2, q3⟩
  | _ => cases h
theorem seqP_at (S : RepS K ro fr H st) (r : RepV K ro fr H x v) (h : seqP st x = some xs) : ∃ a vs, v = .ref a ∧ (SqL K H a vs ∨ SqT K H a vs) ∧ RepVs K ro fr H xs vs := by
  cases r with
  | tup h1 h2 => simp only [seqP, Option.some.injEq] at h; subst h; exact ⟨_, _, rfl, .inr h1.sq, h2⟩
  | fls h1 h2 => obtain ⟨a, vs, q, q2, q3⟩ := lstP_at S (.fls h1 h2) h; exact ⟨a, vs, q, .inl q2, q3⟩
  | lst h1 h2 => obtain ⟨a, vs, q, q2, q3⟩ := lstP_at S (.lst h1 h2) h; exact ⟨a, vs, q, .inl q2, q3⟩
  | ref h1 => obtain ⟨a, vs, q, q2, q3⟩ := lstP_at S (.ref h1) h; exact ⟨a, vs, q, .inl q2, q3⟩
  | dk h1 h2 h3 => cases h
  | _ => cases h
end
mutual
def isD : PV → Bool
  | .non | .bl _ | .int _ | .str _ => true
  | .tup xs | .lst xs | .fls xs => isDs xs
  | .dk _ _ | .ref _ | .ptp _ | .fn _ | .ins _ _ _ => false
def isDs : List PV → Bool
  | [] => true
  | x :: xs => isD x && isDs xs
end
mutual
def dat : PV → PyData
  | .non => .none
  | .bl b => .bool b
  | .int i => .int i
  | .str s => .str s
  | .tup xs => .tuple (dats xs)
  | .lst xs | .fls xs => .list (dats xs)
  | .dk _ _ | .ref _ | .ptp _ | .fn _ | .ins _ _ _ => .none
def dats : List PV → List PyData
  | [] => []
  | x :: xs => dat x :: dats xs
end
section
variable {K : PySem.W.Frag} {ro fr : List Addr} {H : Hp}
mutual
theorem dp_of : ∀ (x : PV) (v : V), RepV K ro fr H x v → isD x = true → Dp K H v (dat x)
  | .non, _, r, _ => by cases r; simp only [dat]; exact .non
  | .bl b, _, r, _ => by cases r; simp only [dat]; exact .bl b
  | .int i, _, r, _ => by cases r; simp only [dat]; exact .int i
  | .str s, _, r, _ => by cases r; simp only [dat]; exact .str s
  | .tup xs, _, r, h => by
    cases r with
    | tup h1 h2 => simp only [dat]; exact .tup h1.sq (dps_of xs _ h2 (by simpa only [isD] using h))
  | .lst xs, _, r, h => by
    cases r with
    | lst h1 h2 => simp only [dat]; exact .lst h1.sq (dps_of xs _ h2 (by simpa only [isD] using h))
  | .fls xs, _, r, h => by
    cases r with
    | fls h1 h2 => simp only [dat]; exact .lst h1.sq (dps_of xs _ h2 (by simpa only [isD] using h))
  | .ptp _, _, _, h => by simp only [isD] at h; cases h
  | .fn _, _, _, h => by simp only [isD] at h; cases h
  | .ins _ _ _, _, _, h => by simp only [isD] at h; cases h
  | .dk _ _, _, _, h => by simp only [isD] at h; cases h
  | .ref _, _, _, h => by simp only [isD] at h; cases h
theorem dps_of : ∀ (xs : List PV) (vs : List V), RepVs K ro fr H xs vs → isDs xs = true → DpAll K H vs (dats xs)
  | [], _, r, _ => by cases r; simp only [dats]; exact .nil
  | x :: xs, _, r, h => by
    cases r with
    | cons h1 h2 =>
      simp only [isDs, Bool.and_eq_true] at h
      simp only [dats]; exact .cons (dp_of x _ h1 h.1) (dps_of xs _ h2 h.2)
end
end
/-- a value as data, a list of the store too -/
def datS (st : Sto) : PV → Option PyData
  | .ref n => match lstS st (.ref n) with
    | some xs => if isDs xs = true then some (.list (dats xs)) else none
    | none => none
  | .ptp xs => if isDs xs = true then some (.tuple (dats xs)) else none
  | x => if isD x = true then some (dat x) else none
theorem datS_at {K : PySem.W.Frag} {ro fr : List Addr} {H : Hp} {st : Sto} {x : PV} {v : V} {d : PyData} (S : RepS K ro fr H st) (r : RepV K ro fr H x v) (h : datS st x = some d) : Dp K H v d := by
  have key : (if isD x = true then some (dat x) else none) = some d → Dp K H v d := fun h => by
    split at h
    · cases h; exact dp_of x v r (by assumption)
    · cases h
  cases x with
  | ref n =>
    simp only [datS] at h
    split at h
    · rename_i xs e
      split at h
      · cases h
        obtain ⟨a, vs, rfl, q, q2⟩ := lstS_at S r e
        exact .lst (SqL.of q) (dps_of xs vs q2 (by assumption))
      · cases h
    · cases h
  | ptp xs =>
    simp only [datS] at h
    split at h
    · cases h
      cases r with
      | ptp h1 h2 => exact .tup h1.sq (dps_of xs _ h2 (by assumption))
    · cases h
  | _ => exact key h
abbrev OpP := PV → PV → Sto → (PV → Sto → Prop) → Prop
def addR (m : Bool) : OpP := fun x y st Q => match x, y with
  | .int i, .int j => Q (.int (i + j)) st
  | .str a, .str b => a.length + b.length ≤ sizeLine ∧ Q (.str (a ++ b)) st
  | .tup xs, .tup ys => xs.length + ys.length ≤ sizeLine ∧ Q (.tup (xs ++ ys)) st
  | x, y => ∃ xs ys, lstS st x = some xs ∧ lstS st y = some ys ∧ xs.length + ys.length ≤ sizeLine ∧ newL m (xs ++ ys) st Q
def subR : OpP := fun x y st Q => ∃ i j, x = .int i ∧ y = .int j ∧ Q (.int (i - j)) st
def mulR : OpP := fun x y st Q => match x, y with
  | .int i, .int j => ((-(2 ^ 64) < i ∧ i < 2 ^ 64) ∨ (-(2 ^ 64) < j ∧ j < 2 ^ 64)) ∧ Q (.int (i * j)) st
  | .tup xs, .int k => xs ≠ [] ∧ 2 ≤ k ∧ k ≤ 1000 ∧ xs.length ≤ 1000 ∧ Q (.tup (List.replicate k.toNat xs).flatten) st
  | .str z, .int k => MulOk z k ∧ Q (.str (PySem.Txt.mul z k)) st
  | _, _ => False
def fdivR : OpP := fun x y st Q => ∃ i j, x = .int i ∧ y = .int j ∧ (0 < j ∧ j < 1073741824) ∧ Q (.int (i / j)) st
def modR : OpP := fun x y st Q => ∃ i j, x = .int i ∧ y = .int j ∧ 0 < j ∧ Q (.int (i % j)) st
def powR : OpP := fun x y st Q => ∃ i j, x = .int i ∧ y = .int j ∧ (0 ≤ j ∧ j ≤ 1000000 ∧ i.natAbs < 2 ^ 64) ∧ Q (.int (i ^ j.toNat)) st
def ltR : OpP := fun x y st Q => match x, y with
  | .int i, .int j => Q (.bl (decide (i < j))) st
  | .str i, .str j => Q (.bl (decide (i.cps.toList < j.cps.toList))) st
  | _, _ => False
def leR : OpP := fun x y st Q => match x, y with
  | .int i, .int j => Q (.bl (decide (i ≤ j))) st
  | .str i, .str j => Q (.bl (!decide (j.cps.toList < i.cps.toList))) st
  | _, _ => False
def gtR : OpP := fun x y st Q => match x, y with
  | .int i, .int j => Q (.bl (decide (j < i))) st
  | .str i, .str j => Q (.bl (decide (j.cps.toList < i.cps.toList))) st
  | _, _ => False
def geR : OpP := fun x y st Q => match x, y with
  | .int i, .int j => Q (.bl (decide (j ≤ i))) st
  | .str i, .str j => Q (.bl (!decide (i.cps.toList < j.cps.toList))) st
  | _, _ => False
def eqR : OpP := fun x y st Q => ∃ d e, datS st x = some d ∧ datS st y = some e ∧ SeqAt.shaped d = true ∧ SeqAt.shaped e = true ∧ Q (.bl (PyData.eqv d e)) st
def neR : OpP := fun x y st Q => ∃ d e, datS st x = some d ∧ datS st y = some e ∧ SeqAt.shaped d = true ∧ SeqAt.shaped e = true ∧ Q (.bl (!PyData.eqv d e)) st
def inR : OpP := fun x y st Q => ∃ d ds, datS st x = some d ∧ datS st y = some (.list ds) ∧ SeqAt.shaped d = true ∧ SeqAt.shaped (.list ds) = true ∧ Q (.bl (ds.any fun z => PyData.eqv z d)) st
def notInR : OpP := fun x y st Q => ∃ d ds, datS st x = some d ∧ datS st y = some (.list ds) ∧ SeqAt.shaped d = true ∧ SeqAt.shaped (.list ds) = true ∧ Q (.bl (!ds.any fun z => PyData.eqv z d)) st
/-- one sign in a text -/
def inSR : OpP := fun x y st Q => ∃ (c : Nat) (z : Str), x = .str ⟨#[c]⟩ ∧ y = .str z ∧ Q (.bl (decide (c ∈ z.cps.toList))) st
def isNR : OpP := fun x y st Q => y = .non ∧ (match x with | .ref _ => False | _ => Q (.bl (match x with | .non => true | _ => false)) st)
def notNR : OpP := fun x y st Q => y = .non ∧ (match x with | .ref _ => False | _ => Q (.bl (match x with | .non => false | _ => true)) st)
section
variable {X : Cx}
theorem dop_add (m : Bool) : DOp X (binaryOp .Add) (addR m) := by
  refine ⟨?_⟩
  intro ro fr H st x y v u Q S rx ry h
  have lists : (∃ xs ys, lstS st x = some xs ∧ lstS st y = some ys ∧ xs.length + ys.length ≤ sizeLine ∧ newL m (xs ++ ys) st Q) → rW X (binaryOp .Add) v u H (Post X.K ro fr H Q) := by
    rintro ⟨xs, ys, hx, hy, hz, q⟩
    obtain ⟨a, vs, rfl, ha, r1⟩ := lstS_at S rx hx
    obtain ⟨b, us, rfl, hb, r2⟩ := lstS_at S ry hy
    exact toRW op_cat ⟨a, b, vs, us, rfl, rfl, ha, hb, by rw [← r1.length, ← r2.length]; exact hz, fun p hp => new_lst m S (r1.append r2) hp q⟩
  cases rx with
  | int i =>
    cases ry with
    | int j => exact toRW op_add ⟨i, j, rfl, rfl, ro, _, st, .refl, S, .int _, h⟩
    | _ => obtain ⟨_, _, z, _⟩ := h; cases z
  | str a =>
    cases ry with
    | str b => exact toRW op_add_str ⟨a, b, rfl, rfl, h.1, ro, _, st, .refl, S, .str _, h.2⟩
    | _ => obtain ⟨_, _, z, _⟩ := h; cases z
  | @tup a xs vs t1 r1 =>
    cases ry with
    | @tup b ys us t2 r2 =>
      obtain ⟨hz, q⟩ := h
      refine toRW op_catA ⟨a, b, vs, us, rfl, rfl, t1.sq, t2.sq, by rw [← r1.length, ← r2.length]; exact hz, fun e => ?_, fun e e2 => ?_, fun e e2 p hp => ?_⟩
      · subst e; cases r1; exact ⟨ro, _, st, .refl, S, .tup t2 r2, by simpa using q⟩
      · subst e2; cases r2; exact ⟨ro, _, st, .refl, S, .tup t1 r1, by simpa using q⟩
      · exact new_tup S (r1.append r2) hp q
    | _ => obtain ⟨_, _, z, _⟩ := h; cases z
  | lst h1 h2 => exact lists h
  | ref h1 => exact lists h
  | non => exact lists h
  | bl _ => exact lists h
  | fls h1 h2 => exact lists h
  | dk h1 h2 h3 => exact lists h
  | ptp h1 h2 => exact lists h
  | fn => exact lists h
  | ins h1 h2 h3 => exact lists h
theorem flatten_rep {K : PySem.W.Frag} {ro fr : List Addr} {H : Hp} {xs : List PV} {vs : List V} (r : RepVs K ro fr H xs vs) : ∀ n : Nat, RepVs K ro fr H (List.replicate n xs).flatten (List.replicate n vs).flatten
  | 0 => .nil
  | n + 1 => by rw [List.replicate_succ, List.replicate_succ, List.flatten_cons, List.flatten_cons]; exact r.append (flatten_rep r n)
theorem op_mulS : OpR X (binaryOp .Mult) (fun x y H Q => ∃ z k, x = .str z ∧ y = .int k ∧ MulOk z k ∧ Q (.str (PySem.Txt.mul z k)) H) := by
  intro pins s σ H x y v u Q I rx ry h
  obtain ⟨i, j, rfl, rfl, hz, q⟩ := h
  obtain ⟨t, rfl⟩ := rx
  obtain ⟨t', rfl⟩ := ry
  exact PySem.SB.mul hz fun t' tk => ⟨.str (PySem.Txt.mul i j), H, I.tok _, ⟨_, rfl⟩, q⟩
theorem dop_mul : DOp X (binaryOp .Mult) mulR := by
  refine ⟨?_⟩
  intro ro fr H st x y v u Q S rx ry h
  cases rx with
  | int i =>
    cases ry with
    | int j => exact toRW op_mul ⟨i, j, rfl, rfl, h.1, ro, _, st, .refl, S, .int _, h.2⟩
    | _ => exact h.elim
  | @tup a xs vs t1 r1 =>
    cases ry with
    | int k =>
      obtain ⟨h0, h1, h2, h3, q⟩ := h
      exact toRW op_repT ⟨a, k, vs, rfl, rfl, t1.sq, fun e => by subst e; cases r1; exact h0 rfl, h1, h2, by rw [← r1.length]; exact h3, fun p hp => new_tup S (flatten_rep r1 _) hp q⟩
    | _ => exact h.elim
  | str z =>
    cases ry with
    | int k => exact toRW op_mulS ⟨z, k, rfl, rfl, h.1, ro, _, st, .refl, S, .str _, h.2⟩
    | _ => exact h.elim
  | _ => exact h.elim
theorem dop_fdiv : DOp X (binaryOp .FloorDiv) fdivR := by
  refine ⟨?_⟩
  rintro ro fr H st x y v u Q S rx ry ⟨i, j, rfl, rfl, hj, q⟩
  cases rx; cases ry
  exact toRW op_fdiv ⟨i, j, rfl, rfl, hj, ro, _, st, .refl, S, .int _, q⟩
theorem dop_mod : DOp X (binaryOp .Mod) modR := by
  refine ⟨?_⟩
  rintro ro fr H st x y v u Q S rx ry ⟨i, j, rfl, rfl, hj, q⟩
  cases rx; cases ry
  exact toRW op_mod ⟨i, j, rfl, rfl, hj, ro, _, st, .refl, S, .int _, q⟩
theorem dop_pow : DOp X (binaryOp .Pow) powR := by
  refine ⟨?_⟩
  rintro ro fr H st x y v u Q S rx ry ⟨i, j, rfl, rfl, hj, q⟩
  cases rx; cases ry
  exact toRW op_pow ⟨i, j, rfl, rfl, hj, ro, _, st, .refl, S, .int _, q⟩
theorem dop_lt : DOp X (compareOp .Lt) ltR := by
  refine ⟨?_⟩
  intro ro fr H st x y v u Q S rx ry h
  cases rx with
  | int i =>
    cases ry with
    | int j => exact toRW op_lt ⟨i, j, rfl, rfl, ro, _, st, .refl, S, .bl _, h⟩
    | _ => exact h.elim
  | str i =>
    cases ry with
    | str j => exact toRW op_lt_str ⟨i, j, rfl, rfl, ro, _, st, .refl, S, .bl _, h⟩
    | _ => exact h.elim
  | _ => exact h.elim
theorem dop_le : DOp X (compareOp .LtE) leR := by
  refine ⟨?_⟩
  intro ro fr H st x y v u Q S rx ry h
  cases rx with
  | int i =>
    cases ry with
    | int j => exact toRW op_le ⟨i, j, rfl, rfl, ro, _, st, .refl, S, .bl _, h⟩
    | _ => exact h.elim
  | str i =>
    cases ry with
    | str j => exact toRW op_le_str ⟨i, j, rfl, rfl, ro, _, st, .refl, S, .bl _, h⟩
    | _ => exact h.elim
  | _ => exact h.elim
theorem dop_gt : DOp X (compareOp .Gt) gtR := by
  refine ⟨?_⟩
  intro ro fr H st x y v u Q S rx ry h
  cases rx with
  | int i =>
    cases ry with
    | int j => exact toRW op_gt ⟨i, j, rfl, rfl, ro, _, st, .refl, S, .bl _, h⟩
    | _ => exact h.elim
  | str i =>
    cases ry with
    | str j => exact toRW op_gt_str ⟨i, j, rfl, rfl, ro, _, st, .refl, S, .bl _, h⟩
    | _ => exact h.elim
  | _ => exact h.elim
theorem dop_ge : DOp X (compareOp .GtE) geR := by
  refine ⟨?_⟩
  intro ro fr H st x y v u Q S rx ry h
  cases rx with
  | int i =>
    cases ry with
    | int j => exact toRW op_ge ⟨i, j, rfl, rfl, ro, _, st, .refl, S, .bl _, h⟩
    | _ => exact h.elim
  | str i =>
    cases ry with
    | str j => exact toRW op_ge_str ⟨i, j, rfl, rfl, ro, _, st, .refl, S, .bl _, h⟩
    | _ => exact h.elim
  | _ => exact h.elim
theorem dop_eq {k : Nat} (G : XG k X) : DOp X (compareOp .Eq) eqR := by
  refine ⟨?_⟩
  rintro ro fr H st x y v u Q S rx ry ⟨d, e, hd, he, sd, se, q⟩
  exact toRW (op_eqD G.room.units) ⟨d, e, datS_at S rx hd, datS_at S ry he, sd, se, ro, _, st, .refl, S, .bl _, q⟩
theorem dop_ne {k : Nat} (G : XG k X) : DOp X (compareOp .NotEq) neR := by
  refine ⟨?_⟩
  rintro ro fr H st x y v u Q S rx ry ⟨d, e, hd, he, sd, se, q⟩
  exact toRW (op_neD G.room.units) ⟨d, e, datS_at S rx hd, datS_at S ry he, sd, se, ro, _, st, .refl, S, .bl _, q⟩
theorem dop_in {k : Nat} (G : XG k X) : DOp X (compareOp .In) inR := by
  refine ⟨?_⟩
  rintro ro fr H st x y v u Q S rx ry ⟨d, ds, hd, he, sd, se, q⟩
  exact toRW (op_inD (by have := G.room.un; omega)) ⟨d, ds, datS_at S rx hd, datS_at S ry he, sd, se, ro, _, st, .refl, S, .bl _, q⟩
theorem dop_inS : DOp X (compareOp .In) inSR := by
  refine ⟨?_⟩
  rintro ro fr H st x y v u Q S rx ry ⟨c, z, rfl, rfl, q⟩
  cases rx; cases ry
  exact toRW op_in_sign ⟨c, z, rfl, rfl, ro, _, st, .refl, S, .bl _, q⟩
theorem dop_isN : DOp X (compareOp .Is) isNR := by
  refine ⟨?_⟩
  rintro ro fr H st x y v u Q S rx ry ⟨rfl, q⟩
  cases ry
  refine toRW op_isN ⟨rfl, ro, _, st, .refl, S, .bl _, ?_⟩
  cases rx <;> first | exact q.elim | exact q
/-- two comparisons in a chain -/
def wChain (r r' : OpP) (wa wb wc : WE) : WE := fun env st Q => wa env st fun x st1 => wb env st1 fun y st2 => r x y st2 fun z st3 => ∃ k, z = .bl k ∧ if k = true then wc env st3 fun x2 st4 => r' y x2 st4 Q else Q (.bl false) st3
def tChainP (r r' : OpP) (wa wb wc : WE) : WT := fun env st Q => wa env st fun x st1 => wb env st1 fun y st2 => r x y st2 fun z st3 => ∃ k, z = .bl k ∧ if k = true then wc env st3 fun x2 st4 => r' y x2 st4 fun z2 st5 => ∃ k2, z2 = .bl k2 ∧ Q k2 st5 else Q false st3
end
end Pv
namespace Pv
open PySem PySem.Spec L2
section
variable {X : Cx} {a b c e : Expr} {es rest : List Expr} {wa wb wc w : WE} {ws : WA} {pos : Pos}
theorem dt_chain {op op' : CmpOp} {r r' : OpP} (ho : DOp X (compareOp op) r) (ho' : DOp X (compareOp op') r') (ha : DE X a wa) (hb : DE X b wb) (hc : DE X c wc)
    (hm : lastMarks [op, op'] [b, c] = false := by exact last_no (by rfl)) : DT X (.Compare a [op, op'] [b, c] pos) (tChainP r r' wa wb wc) := by
  refine ⟨?_⟩
  intro ro fr σ H env st Q E S h
  refine toWT (pt_chain (op_W X _) (op_W X _) (pe_W X a) (pe_W X b) (pe_W X c) hm) ?_
  refine tW.mono (ha _ _ _ _ _ _ _ E S h) fun v H1 ⟨ro1, x, st1, e1, S1, r1, h1⟩ => ?_
  refine tW.mono (hb _ _ _ _ _ _ _ (E.ext e1) S1 h1) fun v2 H2 ⟨ro2, y, st2, e2, S2, r2, h2⟩ => ?_
  refine rW.mono (ho _ _ _ _ _ _ _ _ _ S2 (r1.ext e2) r2 h2) fun v3 H3 ⟨ro3, z, st3, e3, S3, r3, k, hz, q⟩ => ?_
  subst hz
  cases r3
  refine ⟨k, rfl, ?_⟩
  have ee := (e1.trans e2).trans e3
  cases k with
  | false => exact ⟨false, rfl, ro3, st3, ee, S3, q⟩
  | true =>
    refine tW.mono (hc _ _ _ _ _ _ _ (E.ext ee) S3 q) fun v4 H4 ⟨ro4, x4, st4, e4, S4, r4, q4⟩ => ?_
    refine rW.mono (ho' _ _ _ _ _ _ _ _ _ S4 (r2.ext (e3.trans e4)) r4 q4) fun v5 H5 ⟨ro5, z5, st5, e5, S5, r5, k2, hz2, q5⟩ => ?_
    subst hz2
    cases r5
    exact ⟨k2, rfl, ro5, st5, (ee.trans e4).trans e5, S5, q5⟩
def truP (st : Sto) : PV → Option Bool
  | .non => some false
  | .bl b => some b
  | .int i => some (i != 0)
  | .str s => if s.length ≤ sizeLine then some ((s.length : Int) != 0) else none
  | .tup xs | .lst xs | .fls xs | .ptp xs => some (!xs.isEmpty)
  | .dk ks _ => some (!ks.isEmpty)
  | .ref n => match st[n]? with
    | some (.lst xs) => some (!xs.isEmpty)
    | some (.dk ks _) => some (!ks.isEmpty)
    | _ => none
  | .fn _ | .ins _ _ _ => none
theorem isE_reps {K : PySem.W.Frag} {ro fr : List Addr} {H : Hp} {xs : List PV} {vs : List V} (r : RepVs K ro fr H xs vs) : vs.isEmpty = xs.isEmpty := by cases r <;> rfl
theorem isE_map {kvs : List (Key × V)} {ks : List Key} (h : kvs.map (·.1) = ks) : kvs.isEmpty = ks.isEmpty := by subst h; cases kvs <;> rfl
theorem truP_at {K : PySem.W.Frag} {ro fr : List Addr} {H : Hp} {st : Sto} {x : PV} {v : V} {b : Bool} (S : RepS K ro fr H st) (r : RepV K ro fr H x v) (h : truP st x = some b) : TruV K v H b := by
  cases r with
  | non => simp only [truP, Option.some.injEq] at h; exact h.symm
  | bl _ => simp only [truP, Option.some.injEq] at h; exact h.symm
  | int _ => simp only [truP, Option.some.injEq] at h; exact h.symm
  | str s =>
    simp only [truP] at h
    split at h
    · cases h; exact ⟨by assumption, rfl⟩
    · cases h
  | tup h1 h2 => simp only [truP, Option.some.injEq] at h; exact .inr (.inl ⟨_, h1.sq, by rw [isE_reps h2]; exact h.symm⟩)
  | lst h1 h2 => simp only [truP, Option.some.injEq] at h; exact .inl ⟨_, h1.sq, by rw [isE_reps h2]; exact h.symm⟩
  | fls h1 h2 => simp only [truP, Option.some.injEq] at h; exact .inl ⟨_, h1.sq, by rw [isE_reps h2]; exact h.symm⟩
  | ptp h1 h2 => simp only [truP, Option.some.injEq] at h; exact .inr (.inl ⟨_, h1.sq, by rw [isE_reps h2]; exact h.symm⟩)
  | fn => cases h
  | ins h1 h2 h3 => cases h
  | dk h1 h2 h3 => simp only [truP, Option.some.injEq] at h; exact .inr (.inr ⟨_, h1.1, by rw [isE_map h2]; exact h.symm⟩)
  | @ref a n h1 =>
    simp only [truP] at h
    split at h
    · rename_i xs hc
      cases h
      obtain ⟨vs, q1, q2⟩ := S.at_ n _ a hc h1
      exact .inl ⟨vs, SqL.of q1, by rw [isE_reps q2]⟩
    · rename_i ks xs hc
      cases h
      obtain ⟨kvs, q1, q2, q3⟩ := S.at_ n _ a hc h1
      exact .inr (.inr ⟨kvs, q1, by rw [isE_map q2]⟩)
    · cases h
def tTru (w : WE) : WT := fun env st Q => w env st fun x st1 => ∃ b, truP st1 x = some b ∧ Q b st1
theorem dt_tru (h : DE X e w) (he : ∀ whole, isTrue e X.env whole = (do let v ← whole; standAt e.pos; holding [v] (truthy v)) := by exact ist_no (by rfl)) : DT X e (tTru w) := by
  refine ⟨?_⟩
  intro ro fr σ H env st Q E S hw
  refine toWT (pt_truth (pe_W X e) he) ?_
  exact tW.mono (h _ _ _ _ _ _ _ E S hw) fun v H1 ⟨ro1, x, st1, e1, S1, r1, b, hb, q⟩ => ⟨b, truP_at S1 r1 hb, ro1, st1, e1, S1, q⟩
def wAndT (wa wb : WE) : WE := fun env st Q => wa env st fun x st1 => ∃ k, truP st1 x = some k ∧ if k = true then wb env st1 Q else Q x st1
def wOrT (wa wb : WE) : WE := fun env st Q => wa env st fun x st1 => ∃ k, truP st1 x = some k ∧ if k = true then Q x st1 else wb env st1 Q
def wNotT (wa : WE) : WE := fun env st Q => wa env st fun x st1 => ∃ k, truP st1 x = some k ∧ Q (.bl (!k)) st1
theorem d_one {op} (h : DE X a w) : DE X (.BoolOp op [a] pos) w := .mk fun ro fr σ H env st Q E S hw => toW (pe_one (pe_W X a)) (h _ _ _ _ _ _ _ E S hw)
theorem d_and (ha : DE X a wa) (hb : DE X (.BoolOp .And (b :: rest) pos) wb) : DE X (.BoolOp .And (a :: b :: rest) pos) (wAndT wa wb) := by
  refine ⟨?_⟩
  intro ro fr σ H env st Q E S hw
  refine toW (pe_andT (pe_W X a) (pe_W X _)) ?_
  refine tW.mono (ha _ _ _ _ _ _ _ E S hw) fun v H1 ⟨ro1, x, st1, e1, S1, r1, k, hk, q⟩ => ⟨k, truP_at S1 r1 hk, ?_⟩
  cases k with
  | true => exact tW.mono (hb _ _ _ _ _ _ _ (E.ext e1) S1 q) fun _ _ h => h.ext e1
  | false => exact ⟨ro1, x, st1, e1, S1, r1, q⟩
theorem d_not (ha : DE X a wa) : DE X (.UnaryOp .Not a pos) (wNotT wa) := by
  refine ⟨?_⟩
  intro ro fr σ H env st Q E S hw
  refine toW (pe_notT (pe_W X a)) ?_
  exact tW.mono (ha _ _ _ _ _ _ _ E S hw) fun v H1 ⟨ro1, x, st1, e1, S1, r1, k, hk, q⟩ => ⟨k, truP_at S1 r1 hk, ro1, _, st1, e1, S1, .bl _, q⟩
def wNeg (wa : WE) : WE := fun env st Q => wa env st fun x st1 => ∃ i, x = .int i ∧ Q (.int (-i)) st1
theorem d_neg (ha : DE X a wa) : DE X (.UnaryOp .USub a pos) (wNeg wa) := by
  refine ⟨?_⟩
  intro ro fr σ H env st Q E S hw
  refine toW (pe_un un_neg (pe_W X a)) ?_
  refine tW.mono (ha _ _ _ _ _ _ _ E S hw) fun v H1 ⟨ro1, x, st1, e1, S1, r1, i, hi, q⟩ => ?_
  subst hi
  cases r1
  exact ⟨i, rfl, ro1, _, st1, e1, S1, .int _, q⟩
def rIx (X : Cx) : R2 := fun x y H Q => ∀ (value slice : Expr) pins s σ v u, Inv X pins σ H s → RelV x v → RelV y u → subscripted slice false v u = operate [v, u] (getItem v u) → wpAny (model X.prog X.w) X.A (PyProof.Rows.subscriptTail value slice v u) (EP X pins σ Q) X.xe s
theorem ix_W (X : Cx) : IxR X (rIx X) := fun value slice pins s σ H x y v u Q I r1 r2 h e => h value slice pins s σ v u I r1 r2 e
theorem toIx {r : R2} {x y : V} {H : Hp} {Q : VK} (p : IxR X r) (h : r x y H Q) : rIx X x y H Q := fun value slice pins s σ v u I r1 r2 e => p value slice pins s σ H x y v u Q I r1 r2 h e
theorem rIx.mono {x y : V} {H : Hp} {Q Q' : VK} (h : rIx X x y H Q) (hQ : ∀ v H, Q v H → Q' v H) : rIx X x y H Q' := fun value slice pins s σ v u I r1 r2 e => thn (h value slice pins s σ v u I r1 r2 e) fun _ _ => EP.mono hQ
def ixR : OpP := fun x y st Q => ∃ i, y = .int i ∧ match x with
  | .str z => ∃ c, z.length ≤ sizeLine ∧ atI z.cps.toList i = some c ∧ Q (.str ⟨#[c]⟩) st
  | x => ∃ xs v, seqP st x = some xs ∧ atI xs i = some v ∧ Q v st
theorem atI_reps {K : PySem.W.Frag} {ro fr : List Addr} {H : Hp} {xs : List PV} {vs : List V} (r : RepVs K ro fr H xs vs) {i : Int} {x : PV} (h : atI xs i = some x) : ∃ v, atI vs i = some v ∧ RepV K ro fr H x v := by
  unfold atI at h ⊢
  rw [← r.length]
  cases e : ixN xs.length i with
  | none => rw [e] at h; cases h
  | some j => rw [e] at h; exact r.get h
theorem d_ix (ha : DE X a wa) (hb : DE X b wb) (hs : PlainIx b := by exact pix_no (by rfl)) : DE X (.Subscript a b pos) (wOp ixR wa wb) := by
  refine ⟨?_⟩
  intro ro fr σ H env st Q E S h
  refine toW (pe_ix (ix_W X) (pe_W X a) (pe_W X b) hs) ?_
  refine tW.mono (ha _ _ _ _ _ _ _ E S h) fun v H1 ⟨ro1, x, st1, e1, S1, r1, h1⟩ => ?_
  refine tW.mono (hb _ _ _ _ _ _ _ (E.ext e1) S1 h1) fun v2 H2 ⟨ro2, y, st2, e2, S2, r2, i, hi, h2⟩ => ?_
  subst hi
  cases r2
  have r1' := r1.ext e2
  have ee := e1.trans e2
  have seq : (∃ xs v, seqP st2 x = some xs ∧ atI xs i = some v ∧ Q v st2) → rIx X v (.int i) H2 (Post X.K ro fr H Q) := by
    rintro ⟨xs, y, hx, hy, q⟩
    obtain ⟨a, vs, rfl, hs, rs⟩ := seqP_at S2 r1' hx
    obtain ⟨u, hu, ru⟩ := atI_reps rs hy
    rcases hs with hs | hs
    · exact toIx ix_list ⟨a, vs, i, u, rfl, rfl, hs, hu, ro2, y, st2, ee, S2, ru, q⟩
    · exact toIx ix_tup ⟨a, vs, i, u, rfl, rfl, hs, hu, ro2, y, st2, ee, S2, ru, q⟩
  cases r1' with
  | str z =>
    obtain ⟨c, hz, hc, q⟩ := h2
    exact toIx ix_str ⟨z, i, c, rfl, rfl, hz, hc, ro2, _, st2, ee, S2, .str _, q⟩
  | _ => exact seq h2
def cutL {α : Type} (xs : List α) (lo hi : Option Int) : List α := (xs.drop (HT.sIx xs.length 0 lo)).take (HT.sIx xs.length xs.length hi - HT.sIx xs.length 0 lo)
abbrev WO := Envp → Sto → (Option Int → Sto → Prop) → Prop
def tWO (X : Cx) (e : Option Expr) : TO := fun σ H Q => ∀ pins s, Inv X pins σ H s → wpAny (model X.prog X.w) X.A (evalPart e X.env) (fun u s' => ∃ o H', Inv X pins σ H' s' ∧ IsPart u o ∧ Q o H') X.xe s
theorem po_W (X : Cx) (e : Option Expr) : PO X e (tWO X e) := ⟨fun pins s _ _ _ I h => h pins s I⟩
theorem toWO {o : Option Expr} {t : TO} {σ : L2.St} {H : Hp} {Q} (p : PO X o t) (h : t σ H Q) : tWO X o σ H Q := fun pins s I => p.run pins s σ H Q I h
theorem tWO.mono {o : Option Expr} {σ : L2.St} {H : Hp} {Q Q' : Option Int → Hp → Prop} (h : tWO X o σ H Q) (hQ : ∀ v H, Q v H → Q' v H) : tWO X o σ H Q' := fun pins s I => thn (h pins s I) fun _ _ ⟨v, H', I, r, q⟩ => ⟨v, H', I, r, hQ _ _ q⟩
def PostO (K : PySem.W.Frag) (ro fr : List Addr) (H : Hp) (Q : Option Int → Sto → Prop) : Option Int → Hp → Prop := fun b H' => ∃ ro' st', Ext ro H ro' H' ∧ RepS K ro' fr H' st' ∧ Q b st'
structure DO (X : Cx) (e : Option Expr) (w : WO) : Prop where
  run : ∀ ro fr σ H env st Q, RepEnv X.K ro fr H env σ → RepS X.K ro fr H st → w env st Q → tWO X e σ H (PostO X.K ro fr H Q)
instance {X : Cx} {e : Option Expr} {w : WO} : CoeFun (DO X e w) (fun _ => ∀ ro fr σ H env st Q, RepEnv X.K ro fr H env σ → RepS X.K ro fr H st → w env st Q → tWO X e σ H (PostO X.K ro fr H Q)) := ⟨DO.run⟩
def oNo : WO := fun _ st Q => Q none st
def oSo (w : WE) : WO := fun env st Q => w env st fun x st1 => ∃ i, x = .int i ∧ Q (some i) st1
theorem do_no : DO X none oNo := .mk fun ro fr σ H env st Q E S h => toWO po_none ⟨ro, st, .refl, S, h⟩
theorem do_so (h : DE X e w) : DO X (some e) (oSo w) := by
  refine ⟨?_⟩
  intro ro fr σ H env st Q E S hw
  refine toWO (po_some (pe_W X e)) ?_
  refine tW.mono (h _ _ _ _ _ _ _ E S hw) fun v H1 ⟨ro1, x, st1, e1, S1, r1, i, hi, q⟩ => ?_
  subst hi
  cases r1
  exact ⟨i, rfl, ro1, st1, e1, S1, q⟩
def rSlW (X : Cx) : V → Option Int → Option Int → Hp → VK → Prop := fun x lo hi H Q => ∀ pins s σ v vl vu sl, Inv X pins σ H s → RelV x v → s.heap.IsSliceOf sl vl vu .none → IsPart vl lo → IsPart vu hi →
  ∃ T id, typeLookup (.type T) "__getitem__" = pure (some (.builtin id)) ∧ s.TypeIs v T ∧ wpAny (model X.prog X.w) X.A (getItem v (.ref sl)) (EP X pins σ Q) X.xe s
theorem sl_W (X : Cx) : SlR X (rSlW X) := fun pins s σ H x v vl vu lo hi sl Q I rx hs pl pu h => h pins s σ v vl vu sl I rx hs pl pu
theorem toSl {r} {x : V} {lo hi : Option Int} {H : Hp} {Q : VK} (p : SlR X r) (h : r x lo hi H Q) : rSlW X x lo hi H Q := fun pins s σ v vl vu sl I rx hs pl pu => p pins s σ H x v vl vu lo hi sl Q I rx hs pl pu h
def slR (m : Bool) : PV → Option Int → Option Int → Sto → (PV → Sto → Prop) → Prop := fun x lo hi st Q => match x with
  | .str z => z.length ≤ sizeLine ∧ Q (.str (cutS z lo hi)) st
  | .tup xs => Q (.tup (cutL xs lo hi)) st
  | x => ∃ xs, lstP st x = some xs ∧ newL m (cutL xs lo hi) st Q
def wSl (m : Bool) (w : WE) (wl wh : WO) : WE := fun env st Q => w env st fun x st1 => wl env st1 fun lo st2 => wh env st2 fun hi st3 => slR m x lo hi st3 Q
theorem cut_reps {K : PySem.W.Frag} {ro fr : List Addr} {H : Hp} {xs : List PV} {vs : List V} (r : RepVs K ro fr H xs vs) (lo hi : Option Int) : RepVs K ro fr H (cutL xs lo hi) (cutV vs lo hi) := by
  unfold cutL cutV
  rw [r.length]
  exact (r.drop _).take _
theorem cut_whole {α : Type} {xs : List α} {lo hi : Option Int} (h : HT.sIx xs.length 0 lo = 0 ∧ HT.sIx xs.length xs.length hi = xs.length) : cutL xs lo hi = xs := by
  unfold cutL
  rw [h.1, h.2]; simp
theorem d_slice (m : Bool) {lo hi : Option Expr} {wl wh : WO} {p2 : Pos} (he : DE X e w) (hl : DO X lo wl) (hh : DO X hi wh) : DE X (.Subscript e (.Slice lo hi none p2) pos) (wSl m w wl wh) := by
  refine ⟨?_⟩
  intro ro fr σ H env st Q E S hw
  refine toW (pe_slice (sl_W X) (pe_W X e) (po_W X lo) (po_W X hi)) ?_
  refine tW.mono (he _ _ _ _ _ _ _ E S hw) fun v H1 ⟨ro1, x, st1, e1, S1, r1, h1⟩ => ?_
  refine tWO.mono (hl _ _ _ _ _ _ _ (E.ext e1) S1 h1) fun l H2 ⟨ro2, st2, e2, S2, h2⟩ => ?_
  refine tWO.mono (hh _ _ _ _ _ _ _ ((E.ext e1).ext e2) S2 h2) fun u H3 ⟨ro3, st3, e3, S3, h3⟩ => ?_
  have r3 := (r1.ext e2).ext e3
  have ee := (e1.trans e2).trans e3
  have lists : (∃ xs, lstP st3 x = some xs ∧ newL m (cutL xs l u) st3 Q) → rSlW X v l u H3 (Post X.K ro fr H Q) := by
    rintro ⟨xs, hx, q⟩
    obtain ⟨a, vs, rfl, hs, rs⟩ := lstP_at S3 r3 hx
    exact toSl sl_list ⟨a, vs, rfl, hs, fun p hp => (new_lst m S3 (cut_reps rs l u) hp q).ext ee⟩
  cases r3 with
  | str z => exact toSl sl_str ⟨z, rfl, h3.1, ro3, _, st3, ee, S3, .str _, h3.2⟩
  | @tup a xs vs t1 r =>
    refine toSl sl_tupA ⟨a, vs, rfl, t1.sq, fun hw => ?_, fun hw p hp => (new_tup S3 (cut_reps r l u) hp h3).ext ee⟩
    rw [← r.length] at hw
    have h3' : Q (.tup (cutL xs l u)) st3 := h3
    rw [cut_whole hw] at h3'
    exact ⟨ro3, _, st3, ee, S3, .tup t1 r, h3'⟩
  | _ => exact lists h3
abbrev CaP := List PV → Sto → (PV → Sto → Prop) → Prop
def cW (X : Cx) (f : Value) : List V → Hp → VK → Prop := fun xs H Q => ∀ pins s σ us, Inv X pins σ H s → Vals xs us → wpAny (model X.prog X.w) X.A (call f us) (EP X pins σ Q) X.xe s
theorem c_W (X : Cx) (f : Value) : CallR X f (cW X f) := fun pins s σ H xs us Q I r h => h pins s σ us I r
theorem toC {f : Value} {r : List V → Hp → VK → Prop} {xs : List V} {H : Hp} {Q : VK} (p : CallR X f r) (h : r xs H Q) : cW X f xs H Q := fun pins s σ us I rs => p pins s σ H xs us Q I rs h
theorem cW.mono {f : Value} {xs : List V} {H : Hp} {Q Q' : VK} (h : cW X f xs H Q) (hQ : ∀ v H, Q v H → Q' v H) : cW X f xs H Q' := fun pins s σ us I r => thn (h pins s σ us I r) fun _ _ => EP.mono hQ
structure DCa (X : Cx) (f : Value) (r : CaP) : Prop where
  run : ∀ ro fr H st xs vs Q, RepS X.K ro fr H st → RepVs X.K ro fr H xs vs → r xs st Q → cW X f vs H (Post X.K ro fr H Q)
instance {X : Cx} {f : Value} {r : CaP} : CoeFun (DCa X f r) (fun _ => ∀ ro fr H st xs vs Q, RepS X.K ro fr H st → RepVs X.K ro fr H xs vs → r xs st Q → cW X f vs H (Post X.K ro fr H Q)) := ⟨DCa.run⟩
def wCa (r : CaP) (wa : WA) : WE := fun env st Q => wa env st fun xs st1 => r xs st1 Q
theorem d_callB {r : CaP} {id : String} {x : Str} {p : Pos} (hc : DCa X (.builtin id) r) (hg : Gl X x) (hm : X.mg x = none) (hv : bootBuiltins x = some (.builtin id)) (ha : DA X (e :: es) ws) (hn : x ≠ "__name__" := by decide +kernel) (hdb : (x == ("__debug__" : Str)) = false := by decide +kernel)
    (he : starEach (e :: es) X.env = (false, eval e X.env) :: starEach es X.env := by exact star_cons (by rfl)) (hpl : (backTo pos (starEach es X.env)).any (·.1) = false := by exact star_plain (by rfl)) : DE X (.Call (.Name x p) (e :: es) [] pos) (wCa r ws) := by
  refine ⟨?_⟩
  intro ro fr σ H env st Q E S hw
  refine toW (pe_callB (c_W X _) hg hm hv (pa_W X _) hn hdb he hpl) ?_
  refine tWA.mono (ha _ _ _ _ _ _ _ E S hw) fun vs H1 ⟨ro1, xs, st1, e1, S1, r1, h1⟩ => ?_
  exact cW.mono (hc _ _ _ _ _ _ _ S1 r1 h1) fun _ _ h => h.ext e1
theorem d_callTy {r : CaP} {T : String} {x : Str} {p : Pos} (hc : DCa X (.type T) r) (hg : Gl X x) (hm : X.mg x = none) (hv : bootBuiltins x = some (.type T)) (ha : DA X (e :: es) ws) (hn : x ≠ "__name__" := by decide +kernel) (hdb : (x == ("__debug__" : Str)) = false := by decide +kernel)
    (he : starEach (e :: es) X.env = (false, eval e X.env) :: starEach es X.env := by exact star_cons (by rfl)) (hpl : (backTo pos (starEach es X.env)).any (·.1) = false := by exact star_plain (by rfl)) : DE X (.Call (.Name x p) (e :: es) [] pos) (wCa r ws) := by
  refine ⟨?_⟩
  intro ro fr σ H env st Q E S hw
  refine toW (pe_callTy (c_W X _) hg hm hv (pa_W X _) hn hdb he hpl) ?_
  refine tWA.mono (ha _ _ _ _ _ _ _ E S hw) fun vs H1 ⟨ro1, xs, st1, e1, S1, r1, h1⟩ => ?_
  exact cW.mono (hc _ _ _ _ _ _ _ S1 r1 h1) fun _ _ h => h.ext e1
def lenR : CaP := fun xs st Q => ∃ x, xs = [x] ∧ match x with
  | .str z => z.length ≤ sizeLine ∧ Q (.int z.length) st
  | x => ∃ ys, seqP st x = some ys ∧ Q (.int ys.length) st
theorem one_rep {K : PySem.W.Frag} {ro fr : List Addr} {H : Hp} {x : PV} {vs : List V} (r : RepVs K ro fr H [x] vs) : ∃ v, vs = [v] ∧ RepV K ro fr H x v := by
  cases r with
  | cons r1 r2 => cases r2; exact ⟨_, rfl, r1⟩
theorem two_rep {K : PySem.W.Frag} {ro fr : List Addr} {H : Hp} {x y : PV} {vs : List V} (r : RepVs K ro fr H [x, y] vs) : ∃ v u, vs = [v, u] ∧ RepV K ro fr H x v ∧ RepV K ro fr H y u := by
  cases r with
  | cons r1 r2 =>
    cases r2 with
    | cons r2 r3 => cases r3; exact ⟨_, _, rfl, r1, r2⟩
theorem dca_len : DCa X (.builtin "len") lenR := by
  refine ⟨?_⟩
  rintro ro fr H st xs vs Q S r ⟨x, rfl, h⟩
  obtain ⟨v, rfl, r1⟩ := one_rep r
  have seq : (∃ ys, seqP st x = some ys ∧ Q (.int ys.length) st) → cW X (.builtin "len") [v] H (Post X.K ro fr H Q) := by
    rintro ⟨ys, hy, q⟩
    obtain ⟨a, us, rfl, hs, rs⟩ := seqP_at S r1 hy
    exact toC call_len_seq ⟨a, us, rfl, hs, ro, _, st, .refl, S, .int _, by rw [← rs.length]; exact q⟩
  cases r1 with
  | str z => exact toC call_len_str ⟨z, rfl, h.1, ro, _, st, .refl, S, .int _, h.2⟩
  | _ => exact seq h
def tupleR : CaP := fun xs st Q => ∃ x ys, xs = [x] ∧ seqP st x = some ys ∧ Q (.tup ys) st
theorem dca_tuple : DCa X (.type "tuple") tupleR := by
  refine ⟨?_⟩
  rintro ro fr H st xs vs Q S r ⟨x, ys, rfl, hy, q⟩
  obtain ⟨v, rfl, r1⟩ := one_rep r
  cases r1 with
  | @tup a zs us t1 t2 =>
    simp only [seqP, Option.some.injEq] at hy
    subst hy
    exact toC call_tuple_of ⟨a, us, rfl, .inr ⟨t1.sq, ro, _, st, .refl, S, .tup t1 t2, q⟩⟩
  | fls h1 h2 =>
    obtain ⟨a, us, e, hs, rs⟩ := lstP_at S (.fls h1 h2) hy
    cases e
    exact toC call_tuple_of ⟨_, us, rfl, .inl ⟨hs, fun p hp => new_tup S rs hp q⟩⟩
  | lst h1 h2 =>
    obtain ⟨a, us, e, hs, rs⟩ := lstP_at S (.lst h1 h2) hy
    cases e
    exact toC call_tuple_of ⟨_, us, rfl, .inl ⟨hs, fun p hp => new_tup S rs hp q⟩⟩
  | ref h1 =>
    obtain ⟨a, us, e, hs, rs⟩ := lstP_at S (.ref h1) hy
    cases e
    exact toC call_tuple_of ⟨_, us, rfl, .inl ⟨hs, fun p hp => new_tup S rs hp q⟩⟩
  | _ => cases hy
def listR (m : Bool) : CaP := fun xs st Q => ∃ x ys, xs = [x] ∧ seqP st x = some ys ∧ newL m ys st Q
def pInts (ns : List Int) : List PV := ns.map PV.int
def pBls (ns : List Bool) : List PV := ns.map PV.bl
def pStrs (ns : List Str) : List PV := ns.map PV.str
theorem reps_ints {K : PySem.W.Frag} {ro fr : List Addr} {H : Hp} {ns : List Int} {vs : List V} (r : RepVs K ro fr H (pInts ns) vs) : vs = ns.map V.int := by
  induction ns generalizing vs with
  | nil => cases r; rfl
  | cons n ns ih =>
    cases r with
    | cons r1 r2 => cases r1; rw [ih r2]; rfl
theorem reps_bls {K : PySem.W.Frag} {ro fr : List Addr} {H : Hp} {ns : List Bool} {vs : List V} (r : RepVs K ro fr H (pBls ns) vs) : vs = ns.map V.bl := by
  induction ns generalizing vs with
  | nil => cases r; rfl
  | cons n ns ih =>
    cases r with
    | cons r1 r2 => cases r1; rw [ih r2]; rfl
theorem reps_strs {K : PySem.W.Frag} {ro fr : List Addr} {H : Hp} {ns : List Str} {vs : List V} (r : RepVs K ro fr H (pStrs ns) vs) : vs = ns.map V.str := by
  induction ns generalizing vs with
  | nil => cases r; rfl
  | cons n ns ih =>
    cases r with
    | cons r1 r2 => cases r1; rw [ih r2]; rfl
theorem ints_reps {K : PySem.W.Frag} {ro fr : List Addr} {H : Hp} : ∀ ns : List Int, RepVs K ro fr H (pInts ns) (ns.map V.int)
  | [] => .nil
  | n :: ns => .cons (.int n) (ints_reps ns)
def sumR : CaP := fun xs st Q => ∃ x ns, xs = [x] ∧ lstP st x = some (pInts ns) ∧ Q (.int ns.sum) st
theorem dca_sum (hc : X.calm = true) : DCa X (.builtin "sum") sumR := by
  refine ⟨?_⟩
  rintro ro fr H st xs vs Q S r ⟨x, ns, rfl, hy, q⟩
  obtain ⟨v, rfl, r1⟩ := one_rep r
  obtain ⟨a, us, rfl, hs, rs⟩ := lstP_at S r1 hy
  rw [reps_ints rs] at hs
  exact toC (cr_sum hc) ⟨a, ns, rfl, hs, ro, _, st, .refl, S, .int _, q⟩
def allR : CaP := fun xs st Q => ∃ x bs, xs = [x] ∧ lstP st x = some (pBls bs) ∧ Q (.bl (bs.all id)) st
theorem dca_all (hc : X.calm = true) : DCa X (.builtin "all") allR := by
  refine ⟨?_⟩
  rintro ro fr H st xs vs Q S r ⟨x, ns, rfl, hy, q⟩
  obtain ⟨v, rfl, r1⟩ := one_rep r
  obtain ⟨a, us, rfl, hs, rs⟩ := lstP_at S r1 hy
  rw [reps_bls rs] at hs
  exact toC (cr_all hc) ⟨a, ns, rfl, hs, ro, _, st, .refl, S, .bl _, q⟩
def anyR : CaP := fun xs st Q => ∃ x bs, xs = [x] ∧ lstP st x = some (pBls bs) ∧ Q (.bl (bs.any id)) st
def intR : CaP := fun xs st Q => ∃ x, xs = [x] ∧ match x with
  | .int i => Q (.int i) st
  | .bl k => Q (.int (if k then 1 else 0)) st
  | _ => False
theorem dca_int : DCa X (.type "int") intR := by
  refine ⟨?_⟩
  rintro ro fr H st xs vs Q S r ⟨x, rfl, h⟩
  obtain ⟨v, rfl, r1⟩ := one_rep r
  cases r1 with
  | int i => exact toC call_int1 (.inl ⟨i, rfl, ro, _, st, .refl, S, .int _, h⟩)
  | bl k => exact toC call_int1 (.inr ⟨k, rfl, ro, _, st, .refl, S, .int _, h⟩)
  | _ => exact h.elim
def max2R : CaP := fun xs st Q => ∃ i j, xs = [.int i, .int j] ∧ Q (.int (if j > i then j else i)) st
def min2R : CaP := fun xs st Q => ∃ i j, xs = [.int i, .int j] ∧ Q (.int (if j < i then j else i)) st
theorem dca_max2 (hc : X.calm = true) : DCa X (.builtin "max") max2R := by
  refine ⟨?_⟩
  rintro ro fr H st xs vs Q S r ⟨i, j, rfl, q⟩
  obtain ⟨v, u, rfl, r1, r2⟩ := two_rep r
  cases r1; cases r2
  exact toC (call_max2 hc) ⟨i, j, rfl, ro, _, st, .refl, S, .int _, q⟩
theorem dca_min2 (hc : X.calm = true) : DCa X (.builtin "min") min2R := by
  refine ⟨?_⟩
  rintro ro fr H st xs vs Q S r ⟨i, j, rfl, q⟩
  obtain ⟨v, u, rfl, r1, r2⟩ := two_rep r
  cases r1; cases r2
  exact toC (call_min2 hc) ⟨i, j, rfl, ro, _, st, .refl, S, .int _, q⟩
def tyP (st : Sto) : PV → Option String
  | .non => some "NoneType"
  | .bl _ => some "bool"
  | .int _ => some "int"
  | .str _ => some "str"
  | .tup _ => some "tuple"
  | .ptp _ | .fn _ | .ins _ _ _ => none
  | .lst _ | .fls _ => some "list"
  | .dk _ _ => some "dict"
  | .ref n => match st[n]? with
    | some (.lst _) => some "list"
    | some (.dk _ _) => some "dict"
    | _ => none
def isiB (t T : String) : Bool := t == T || (t == "bool" && T == "int")
theorem kitB_all : ∀ t ∈ ["NoneType", "bool", "int", "str", "tuple", "list", "dict"], ∀ T ∈ ["bool", "int", "str", "tuple", "list", "dict"], kitB t T = some (isiB t T) := by decide +kernel
theorem tyX_of {K : PySem.W.Frag} {ro fr : List Addr} {H : Hp} {st : Sto} {x : PV} {v : V} {t : String} (S : RepS K ro fr H st) (r : RepV K ro fr H x v) (h : tyP st x = some t) : TyX K H v (.type t) ∧ t ∈ ["NoneType", "bool", "int", "str", "tuple", "list", "dict"] := by
  cases r with
  | non => cases h; exact ⟨.base .non, by decide⟩
  | bl _ => cases h; exact ⟨.base (.bl _), by decide⟩
  | int _ => cases h; exact ⟨.base (.int _), by decide⟩
  | str _ => cases h; exact ⟨.base (.str _), by decide⟩
  | tup h1 h2 =>
    cases h
    refine ⟨?_, by decide⟩
    rcases h1.sq with (h | ⟨o, h⟩) | ⟨o, its, n, h1, h2, _⟩
    · exact .base (.tup h)
    · exact .fTuple h
    · exact .kTuple h1 h2
  | ptp h1 h2 => cases h
  | fn => cases h
  | ins h1 h2 h3 => cases h
  | lst h1 h2 => cases h; exact ⟨.base (.lst h1.1), by decide⟩
  | fls h1 h2 =>
    cases h
    refine ⟨?_, by decide⟩
    rcases h1.sq with (h | ⟨o, h⟩) | ⟨o, its, n, h1, h2, _⟩
    · exact .base (.lst h)
    · exact .base (.frz h)
    · exact .kList h1 h2
  | dk h1 h2 h3 => cases h; exact ⟨.base (.dK h1.1), by decide⟩
  | @ref a n h1 =>
    simp only [tyP] at h
    split at h
    · rename_i xs hc
      cases h
      obtain ⟨vs, q1, q2⟩ := S.at_ n _ a hc h1
      exact ⟨.base (.lst q1), by decide⟩
    · rename_i ks xs hc
      cases h
      obtain ⟨kvs, q1, q2, q3⟩ := S.at_ n _ a hc h1
      exact ⟨.base (.dK q1), by decide⟩
    · cases h
def wIsi (T : String) (w : WE) : WE := fun env st Q => w env st fun x st1 => ∃ t, tyP st1 x = some t ∧ Q (.bl (isiB t T)) st1
theorem d_isi {T : String} {y : Str} {p p2 : Pos} (hT : T ∈ ["bool", "int", "str", "tuple", "list", "dict"]) (hg : Gl X "isinstance") (hm : X.mg "isinstance" = none) (hg2 : Gl X y) (hm2 : X.mg y = none) (hv2 : bootBuiltins y = some (.type T)) (ha : DE X a wa)
    (hn2 : y ≠ "__name__" := by decide +kernel) (hd2 : (y == ("__debug__" : Str)) = false := by decide +kernel)
    (he : starEach (a :: [.Name y p2]) X.env = (false, eval a X.env) :: starEach [.Name y p2] X.env := by exact star_cons (by rfl)) (hpl : (backTo pos (starEach [.Name y p2] X.env)).any (·.1) = false := by exact star_plain (by rfl)) :
    DE X (.Call (.Name "isinstance" p) [a, .Name y p2] [] pos) (wIsi T wa) := by
  refine ⟨?_⟩
  intro ro fr σ H env st Q E S hw
  refine toW (pe_callB call_isi hg hm PyProof.Rows.boot_isinstance (pa_cons (pe_W X a) (pa_cons (pe_bltn (v := .ty T) hg2 hm2 hv2 rfl hn2 hd2) pa_nil) he) (by decide) (by decide) he hpl) ?_
  refine tW.mono (ha _ _ _ _ _ _ _ E S hw) fun v H1 ⟨ro1, x, st1, e1, S1, r1, t, ht, q⟩ => ?_
  obtain ⟨h1, h2⟩ := tyX_of S1 r1 ht
  exact ⟨v, .ty T, .type t, .type T, isiB t T, rfl, .ty T, h1, kit_ty (kitB_all t h2 T hT), ro1, _, st1, e1, S1, .bl _, q⟩
end
end Pv
namespace Pv
open PySem PySem.Spec L2
end Pv
namespace Pv
open PySem PySem.Spec L2
def gdOf (x : PV) (xs : List PV) : Sto → Prop := match x with
  | .ref n => fun st => st[n]? = some (.lst xs)
  | _ => fun _ => True
def itP (st : Sto) : PV → Option (List PV)
  | .str z => some (z.cps.toList.map fun c => .str ⟨#[c]⟩)
  | x => seqP st x
def iVal (w : WE) : WI := fun env st R => w env st fun x st1 => ∃ xs, itP st1 x = some xs ∧ R ⟨xs, gdOf x xs⟩ st1
section
variable {K : PySem.W.Frag} {ro fr : List Addr} {H : Hp} {st : Sto} {x : PV} {v : V} {xs : List PV}
theorem lst_kept {st' : Sto} (h : lstP st x = some xs) (g : gdOf x xs st') : lstP st' x = some xs := by
  cases x with
  | ref n =>
    have g' : st'[n]? = some (.lst xs) := g
    simp only [lstP, lstS, g']
  | _ => exact h
theorem seqP_kind (S : RepS K ro fr H st) (r : RepV K ro fr H x v) (h : seqP st x = some xs) :
    ∃ a, v = .ref a ∧ ((x = .tup xs ∧ ∃ vs, SqT K H a vs ∧ RepVs K ro fr H xs vs) ∨ (lstP st x = some xs ∧ ∃ vs, SqL K H a vs ∧ RepVs K ro fr H xs vs)) := by
  cases r with
  | tup h1 h2 => simp only [seqP, Option.some.injEq] at h; subst h; exact ⟨_, rfl, .inl ⟨rfl, _, h1.sq, h2⟩⟩
  | fls h1 h2 => obtain ⟨a, vs, q, q2, q3⟩ := lstP_at S (.fls h1 h2) h; exact ⟨a, q, .inr ⟨h, vs, q2, q3⟩⟩
  | lst h1 h2 => obtain ⟨a, vs, q, q2, q3⟩ := lstP_at S (.lst h1 h2) h; exact ⟨a, q, .inr ⟨h, vs, q2, q3⟩⟩
  | ref h1 => obtain ⟨a, vs, q, q2, q3⟩ := lstP_at S (.ref h1) h; exact ⟨a, q, .inr ⟨h, vs, q2, q3⟩⟩
  | _ => cases h
/-- a list that is walked -/
theorem it_lst (r : RepV K ro fr H x v) {a : Addr} (hv : v = .ref a) (h : lstP st x = some xs) : RepIt K ro fr H (Itl K a) ⟨xs, gdOf x xs⟩ := by
  intro fr' ro' H' st' hf S g
  have r' := hf _ _ r
  obtain ⟨b, vs, hb, sq, rs⟩ := lstP_at S r' (lst_kept h g)
  rw [hv] at hb; cases hb
  refine ⟨fun i y hy => ?_, vs, sq, by show vs.length ≤ xs.length; rw [rs.length]; exact Nat.le_refl _⟩
  obtain ⟨u, hu, ru⟩ := rs.get hy
  refine ⟨⟨vs, u, sq, hu⟩, fun v' H'' q => ?_⟩
  obtain ⟨rfl, q⟩ := q
  have := q vs sq
  rw [hu] at this; cases this
  exact ⟨.refl, S, ru⟩
theorem it_tup (r : RepV K ro fr H (.tup xs) v) {a : Addr} (hv : v = .ref a) : RepIt K ro fr H (Itt K a) ⟨xs, gdOf (.tup xs) xs⟩ := by
  intro fr' ro' H' st' hf S g
  have r' := hf _ _ r
  subst hv
  cases r' with
  | @tup _ _ vs t1 rs =>
    refine ⟨fun i y hy => ?_, vs, t1.sq, by show vs.length ≤ xs.length; rw [rs.length]; exact Nat.le_refl _⟩
    obtain ⟨u, hu, ru⟩ := rs.get hy
    refine ⟨⟨vs, u, t1.sq, hu⟩, fun v' H'' q => ?_⟩
    obtain ⟨rfl, q⟩ := q
    have := q vs t1.sq
    rw [hu] at this; cases this
    exact ⟨.refl, S, ru⟩
theorem it_str {z : Str} : RepIt K ro fr H (Its z) ⟨z.cps.toList.map fun c => .str ⟨#[c]⟩, gdOf (.str z) (z.cps.toList.map fun c => .str ⟨#[c]⟩)⟩ := by
  intro fr' ro' H' st' hf S g
  refine ⟨fun i y hy => ?_, by show z.cps.size ≤ _; simp⟩
  have hy' : (z.cps.toList.map fun c => PV.str ⟨#[c]⟩)[i]? = some y := hy
  rw [List.getElem?_map] at hy'
  cases hc : z.cps.toList[i]? with
  | none => rw [hc] at hy'; cases hy'
  | some c =>
    rw [hc] at hy'; cases hy'
    have hi := (List.getElem?_eq_some_iff.mp hc).1
    refine ⟨show i < z.cps.size by simpa using hi, fun v' H'' q => ?_⟩
    obtain ⟨rfl, c', hc', rfl⟩ := q
    have : z.cps[i]? = some c := by simpa using hc
    rw [this] at hc'; cases hc'
    exact ⟨.refl, S, .str _⟩
def rgP (lo : Int) (n : Nat) : List PV := (List.range n).map fun i => PV.int (lo + (i : Nat))
theorem it_rng {lo : Int} {n : Nat} : RepIt K ro fr H (Itr lo n) ⟨rgP lo n, fun _ => True⟩ := by
  intro fr' ro' H' st' hf S g
  refine ⟨fun i y hy => ?_, by show n ≤ (rgP lo n).length; simp [rgP]⟩
  have hi : i < n := by
    have := (List.getElem?_eq_some_iff.mp hy).1
    simpa [rgP] using this
  refine ⟨hi, fun v' H'' q => ?_⟩
  obtain ⟨rfl, rfl⟩ := q
  have hy' : (rgP lo n)[i]? = some y := hy
  simp only [rgP, List.getElem?_map, List.getElem?_range hi, Option.map_some, Option.some.injEq] at hy'
  subst hy'
  exact ⟨.refl, S, .int _⟩
def enP (xs : List PV) : List PV := xs.mapIdx fun i y => .tup [.int (i : Nat), y]
theorem new_pair {K : PySem.W.Frag} {ro fr : List Addr} {H : Hp} {st : Sto} {T : Addr} {x y : PV} {v u : V} (S : RepS K ro fr H st) (hT : H T = none) (r1 : RepV K ro fr H x v) (r2 : RepV K ro fr H y u) :
    Ext ro H ro (upd H T (.tup [v, u])) ∧ RepS K ro fr (upd H T (.tup [v, u])) st ∧ RepV K ro fr (upd H T (.tup [v, u])) (.tup [x, y]) (.ref T) :=
  ⟨ext_new hT, S.new hT, .tup (.inl ⟨.inl upd_same, S.fresh hT⟩) (.cons (r1.ext (ext_new hT)) (.cons (r2.ext (ext_new hT)) .nil))⟩
end
section
variable {X : Cx} {tg e a b : Expr} {w : WE} {wa : WA} {p pos : Pos}
theorem pi_any {te : TE} (he : PE X e te) : PI X tg e (fun σ H R => te σ H fun v H1 => (∃ a xs, v = .ref a ∧ SqL X.K H1 a xs ∧ R (Itl X.K a) H1) ∨ (∃ a xs, v = .ref a ∧ SqT X.K H1 a xs ∧ R (Itt X.K a) H1) ∨ ∃ x, v = .str x ∧ R (Its x) H1) := by
  refine ⟨fun pins s σ H R I h => ?_⟩
  refine thn (he.run pins s σ H _ I h) fun v s1 ⟨y, H1, I1, r1, q⟩ => ?_
  rcases q with ⟨a, xs, rfl, hq, q⟩ | ⟨a, xs, rfl, hq, q⟩ | ⟨x, rfl, q⟩
  · cases r1
    obtain ⟨its, rv, p, hz⟩ := I1.list hq
    refine wpAny_pyIter_list p.isList ?_
    exact pi_one (tk := s1.toks) I1 _ (turn_list a _) ⟨_, Heap.get?_push_size _ rfl, rfl, rfl⟩ q
  · cases r1
    obtain ⟨its, rv, p, hz⟩ := I1.tuple hq
    refine wpAny_pyIter_tuple (show s1.heap.IsTuple a its.toArray from p) ?_
    exact pi_one (tk := s1.toks) I1 _ (turn_tuple a _) ⟨_, Heap.get?_push_size _ rfl, rfl, rfl⟩ q
  · obtain ⟨t, rfl⟩ := r1
    cases ha : x.cps.all (· < 128)
    · exact wpAny_pyIter_wide ha (pi_one (tk := s1.toks) I1 _ (turn_str _ x t "str_iterator" (.inr rfl)) ⟨_, Heap.get?_push_size _ rfl, rfl, rfl⟩ q)
    · exact wpAny_pyIter_ascii ha (pi_one (tk := s1.toks) I1 _ (turn_str _ x t "str_ascii_iterator" (.inl rfl)) ⟨_, Heap.get?_push_size _ rfl, rfl, rfl⟩ q)
theorem di_val (h : DE X e w) : DI X tg e (iVal w) := by
  refine ⟨?_⟩
  intro ro fr σ H env st R E S hw
  refine toWI (pi_any (pe_W X e)) ?_
  refine tW.mono (h _ _ _ _ _ _ _ E S hw) fun v H1 ⟨ro1, x, st1, e1, S1, r1, xs, hx, q⟩ => ?_
  have seq : seqP st1 x = some xs → ((∃ a xs, v = .ref a ∧ SqL X.K H1 a xs ∧ ∃ ro' p st', Ext ro H ro' H1 ∧ RepS X.K ro' fr H1 st' ∧ RepIt X.K ro' fr H1 (Itl X.K a) p ∧ R p st') ∨ (∃ a xs, v = .ref a ∧ SqT X.K H1 a xs ∧ ∃ ro' p st', Ext ro H ro' H1 ∧ RepS X.K ro' fr H1 st' ∧ RepIt X.K ro' fr H1 (Itt X.K a) p ∧ R p st') ∨
      ∃ x, v = .str x ∧ ∃ ro' p st', Ext ro H ro' H1 ∧ RepS X.K ro' fr H1 st' ∧ RepIt X.K ro' fr H1 (Its x) p ∧ R p st') := fun hx => by
    obtain ⟨a, hv, ⟨rfl, vs, sq, rs⟩ | ⟨hl, vs, sq, rs⟩⟩ := seqP_kind S1 r1 hx
    · exact .inr (.inl ⟨a, vs, hv, sq, ro1, _, st1, e1, S1, it_tup r1 hv, q⟩)
    · exact .inl ⟨a, vs, hv, sq, ro1, _, st1, e1, S1, it_lst r1 hv hl, q⟩
  cases x with
  | str z =>
    cases r1
    simp only [itP, Option.some.injEq] at hx
    subst hx
    exact .inr (.inr ⟨z, rfl, ro1, _, st1, e1, S1, it_str, q⟩)
  | _ => exact seq hx
def iRg1 (wa : WA) : WI := fun env st R => wa env st fun xs st1 => ∃ j : Int, xs = [.int j] ∧ (-(2 ^ 62) ≤ j ∧ j < 2 ^ 62) ∧ R ⟨rgP 0 j.toNat, fun _ => True⟩ st1
def iRg2 (wa : WA) : WI := fun env st R => wa env st fun xs st1 => ∃ i j : Int, xs = [.int i, .int j] ∧ (-(2 ^ 62) ≤ i ∧ i < 2 ^ 62 ∧ -(2 ^ 62) ≤ j ∧ j < 2 ^ 62) ∧ R ⟨rgP i (j - i).toNat, fun _ => True⟩ st1
theorem di_rng1 (hg : Gl X "range") (hm : X.mg "range" = none) (ha : DA X [a] wa) (hs : starEach [a] X.env = [(false, eval a X.env)] := by exact star_one (by rfl)) : DI X tg (.Call (.Name "range" p) [a] [] pos) (iRg1 wa) := by
  refine ⟨?_⟩
  intro ro fr σ H env st R E S hw
  refine toWI (pi_range1 hg hm (pa_W X _) hs) ?_
  refine tWA.mono (ha _ _ _ _ _ _ _ E S hw) fun vs H1 ⟨ro1, xs, st1, e1, S1, r1, j, hx, hj, q⟩ => ?_
  subst hx
  obtain ⟨v, rfl, r⟩ := one_rep r1
  cases r
  exact ⟨j, rfl, hj.1, hj.2, ro1, _, st1, e1, S1, it_rng, q⟩
def iEnP (wa : WA) : WI := fun env st R => wa env st fun xs st1 => ∃ x ys, xs = [x] ∧ seqP st1 x = some ys ∧ R ⟨enP ys, gdOf x ys⟩ st1
end
abbrev MtP := PV → List PV → Sto → (PV → Sto → Prop) → Prop
def mW (X : Cx) (id : String) : V → List V → Hp → VK → Prop := fun x xs H Q => ∀ pins s σ v us, Inv X pins σ H s → RelV x v → Vals xs us → wpAny (model X.prog X.w) X.A (call (.builtin id) (v :: us)) (EP X pins σ Q) X.xe s
theorem mt_W (X : Cx) (id : String) : MtR X id (mW X id) := fun pins s σ H x xs v us Q I r1 r2 h => h pins s σ v us I r1 r2
theorem toM {X : Cx} {id : String} {r : V → List V → Hp → VK → Prop} {x : V} {xs : List V} {H : Hp} {Q : VK} (p : MtR X id r) (h : r x xs H Q) : mW X id x xs H Q := fun pins s σ v us I r1 r2 => p pins s σ H x xs v us Q I r1 r2 h
theorem mW.mono {X : Cx} {id : String} {x : V} {xs : List V} {H : Hp} {Q Q' : VK} (h : mW X id x xs H Q) (hQ : ∀ v H, Q v H → Q' v H) : mW X id x xs H Q' := fun pins s σ v us I r1 r2 => thn (h pins s σ v us I r1 r2) fun _ _ => EP.mono hQ
structure DM (X : Cx) (id : String) (r : MtP) : Prop where
  run : ∀ ro fr H st x xs v vs Q, RepS X.K ro fr H st → RepV X.K ro fr H x v → RepVs X.K ro fr H xs vs → r x xs st Q → mW X id v vs H (Post X.K ro fr H Q)
instance {X : Cx} {id : String} {r : MtP} : CoeFun (DM X id r) (fun _ => ∀ ro fr H st x xs v vs Q, RepS X.K ro fr H st → RepV X.K ro fr H x v → RepVs X.K ro fr H xs vs → r x xs st Q → mW X id v vs H (Post X.K ro fr H Q)) := ⟨DM.run⟩
def tyM (st : Sto) : PV → Option String
  | .str _ => some "str"
  | .lst _ | .fls _ => some "list"
  | .dk _ _ => some "dict"
  | .ref n => match st[n]? with
    | some (.lst _) => some "list"
    | some (.dk _ _) => some "dict"
    | _ => none
  | _ => none
theorem tyM_at {K : PySem.W.Frag} {ro fr : List Addr} {H : Hp} {st : Sto} {x : PV} {v : V} {t : String} (S : RepS K ro fr H st) (r : RepV K ro fr H x v) (h : tyM st x = some t) : tyV K t v H := by
  cases r with
  | str s => cases h; rfl
  | lst h1 h2 => cases h; exact .inl ⟨rfl, _, SqL.of h1.1⟩
  | fls h1 h2 => cases h; exact .inl ⟨rfl, _, h1.sq⟩
  | dk h1 h2 h3 => cases h; exact .inr (.inr (.inl ⟨rfl, .inl ⟨_, h1.1⟩⟩))
  | @ref a n h1 =>
    simp only [tyM] at h
    split at h
    · rename_i xs hc
      cases h
      obtain ⟨vs, q1, q2⟩ := S.at_ n _ a hc h1
      exact .inl ⟨rfl, vs, SqL.of q1⟩
    · rename_i ks xs hc
      cases h
      obtain ⟨kvs, q1, q2, q3⟩ := S.at_ n _ a hc h1
      exact .inr (.inr (.inl ⟨rfl, .inl ⟨_, q1⟩⟩))
    · cases h
  | _ => cases h
def wM (T : String) (r : MtP) (wo : WE) (wa : WA) : WE := fun env st Q => wo env st fun x st1 => tyM st1 x = some T ∧ wa env st1 fun xs st2 => r x xs st2 Q
section
variable {X : Cx} {o e : Expr} {es : List Expr} {wo : WE} {wa : WA} {name : Str} {apos cpos : Pos} {T id : String} {r : MtP}
theorem d_m0 (pa : PlainAttrs T) (slot : Slot T name id) (hty : typeOf (.builtin id) = pure (.type "method_descriptor")) (hm : DM X id r) (ho : DE X o wo)
    (hbase : attributeBase o name X.env (eval o X.env) = eval o X.env := by exact base_no (by rfl)) (hline : (apos.endLine == cpos.line) = true := by rfl) : DE X (.Call (.Attribute o name apos) [] [] cpos) (wM T r wo wNil) := by
  refine ⟨?_⟩
  intro ro fr σ H env st Q E S h
  refine toW (pe_bm0 pa slot hty (mt_W X id) (pe_W X o) hbase hline) ?_
  refine tW.mono (ho _ _ _ _ _ _ _ E S h) fun v H1 ⟨ro1, x, st1, e1, S1, r1, ht, h1⟩ => ⟨tyM_at S1 r1 ht, ?_⟩
  exact mW.mono (hm _ _ _ _ _ _ _ _ _ S1 r1 .nil h1) fun _ _ h => h.ext e1
theorem d_m (pa : PlainAttrs T) (slot : Slot T name id) (hty : typeOf (.builtin id) = pure (.type "method_descriptor")) (hm : DM X id r) (ho : DE X o wo) (ha : DA X (e :: es) wa)
    (hbase : attributeBase o name X.env (eval o X.env) = eval o X.env := by exact base_no (by rfl))
    (hfew : ((backTo cpos (starEach (e :: es) X.env)).all (fun x => !x.1) && (backToKw cpos (keywordEach [] X.env)).all (fun x => x.1.isSome)
      && decide ((e :: es).length + ([] : List Keyword).length + (if ([] : List Keyword).isEmpty then 0 else 1) < 30)) = true := by exact star_few (by rfl) (by decide))
    (hline : (apos.endLine == cpos.line) = true := by rfl) (hs : starEach (e :: es) X.env = (false, eval e X.env) :: starEach es X.env := by exact star_cons (by rfl)) (hplain : (backTo cpos (starEach es X.env)).any (·.1) = false := by exact star_plain (by rfl)) :
    DE X (.Call (.Attribute o name apos) (e :: es) [] cpos) (wM T r wo wa) := by
  refine ⟨?_⟩
  intro ro fr σ H env st Q E S h
  refine toW (pe_bm pa slot hty (mt_W X id) (pe_W X o) (pa_W X _) hbase hfew hline hs hplain) ?_
  refine tW.mono (ho _ _ _ _ _ _ _ E S h) fun v H1 ⟨ro1, x, st1, e1, S1, r1, ht, h1⟩ => ⟨tyM_at S1 r1 ht, ?_⟩
  refine tWA.mono (ha _ _ _ _ _ _ _ (E.ext e1) S1 h1) fun vs H2 ⟨ro2, xs, st2, e2, S2, r2, h2⟩ => ?_
  exact mW.mono (hm _ _ _ _ _ _ _ _ _ S2 (r1.ext e2) r2 h2) fun _ _ h => h.ext (e1.trans e2)
end
/-- a cell is changed, and something told -/
theorem post_set {K : PySem.W.Frag} {ro fr : List Addr} {H : Hp} {st : Sto} {n : Nat} {a : Addr} {ob : HO} {c : Cell} {x : PV} {v : V} {Q : PV → Sto → Prop} (S : RepS K ro fr H st) (hn : ro[n]? = some a)
    (hc : Ext ro H ro (upd H a ob) → RepC K ro fr (upd H a ob) c a) (r : Ext ro H ro (upd H a ob) → RepV K ro fr (upd H a ob) x v) (q : Q x (st.set n c)) : Post K ro fr H Q v (upd H a ob) :=
  have e : Ext ro H ro (upd H a ob) := ext_set (List.mem_of_getElem? hn)
  ⟨ro, x, _, e, S.set hn (hc e), r e, q⟩
def appendR : MtP := fun x xs st Q => ∃ n ys y, x = .ref n ∧ xs = [y] ∧ st[n]? = some (.lst ys) ∧ ys.length < sizeLine ∧ Q .non (st.set n (.lst (ys ++ [y])))
def extendR : MtP := fun x xs st Q => ∃ n ys y zs, x = .ref n ∧ xs = [y] ∧ st[n]? = some (.lst ys) ∧ lstS st y = some zs ∧ ys.length + zs.length ≤ sizeLine ∧ Q .non (st.set n (.lst (ys ++ zs)))
def popR : MtP := fun x xs st Q => ∃ n ys y, x = .ref n ∧ xs = [] ∧ st[n]? = some (.lst ys) ∧ ys[ys.length - 1]? = some y ∧ Q y (st.set n (.lst ys.dropLast))
section
variable {X : Cx}
theorem dm_append : DM X "list.append" appendR := by
  refine ⟨?_⟩
  rintro ro fr H st x xs v vs Q S r rs ⟨n, ys, y, rfl, rfl, hn, hz, q⟩
  cases r with
  | @ref a _ h1 =>
    obtain ⟨us, hu, ru⟩ := S.at_ n _ a hn h1
    obtain ⟨u, rfl, r1⟩ := one_rep rs
    exact toM mt_append ⟨a, us, u, rfl, rfl, hu, by rw [← ru.length]; exact hz, post_set (c := .lst (ys ++ [y])) S h1 (fun e => ⟨_, upd_same, (ru.append (.cons r1 .nil)).ext e⟩) (fun _ => .non) q⟩
def joinR : MtP := fun x xs st Q => ∃ a y ys, x = .str a ∧ xs = [y] ∧ seqP st y = some (pStrs ys) ∧ (ys.map (·.length)).sum + ys.length * a.length ≤ 16777216 ∧ Q (.str (Txt.join a ys)) st
theorem dm_join : DM X "str.join" joinR := by
  refine ⟨?_⟩
  rintro ro fr H st x xs v vs Q S r rs ⟨a, y, ys, rfl, rfl, hy, hz, q⟩
  cases r
  obtain ⟨u, rfl, r1⟩ := one_rep rs
  obtain ⟨b, us, rfl, hs, rb⟩ := seqP_at S r1 hy
  rw [reps_strs rb] at hs
  exact toM mt_join ⟨a, b, ys, rfl, rfl, hs, hz, ro, _, st, .refl, S, .str _, q⟩
def upperR : MtP := fun x xs st Q => ∃ a, x = .str a ∧ xs = [] ∧ a.length ≤ 5592405 ∧ Q (.str (Txt.upper a)) st
theorem dm_upper : DM X "str.upper" upperR := by
  refine ⟨?_⟩
  rintro ro fr H st x xs v vs Q S r rs ⟨a, rfl, rfl, hz, q⟩
  cases r; cases rs
  exact toM mt_upper ⟨a, rfl, rfl, hz, ro, _, st, .refl, S, .str _, q⟩
end
def sW (X : Cx) : TSet := fun o i v H Q => ∀ pins s σ ov iv u, Inv X pins σ H s → RelV o ov → RelV i iv → RelV v u → wpAny (model X.prog X.w) X.A (setItem ov iv u) (fun _ s' => ∃ H', Inv X pins σ H' s' ∧ Q H') X.xe s
theorem set_W (X : Cx) : PSet X (sW X) := fun pins s σ H o i v ov iv u Q I r1 r2 r3 h => h pins s σ ov iv u I r1 r2 r3
theorem toSet {X : Cx} {t : TSet} {o i v : V} {H : Hp} {Q : Hp → Prop} (p : PSet X t) (h : t o i v H Q) : sW X o i v H Q := fun pins s σ ov iv u I r1 r2 r3 => p pins s σ H o i v ov iv u Q I r1 r2 r3 h
def gIx (wo wi : WE) : WG := fun v env st Q => wo env st fun x st1 => wi env st1 fun y st2 => ∃ n k ys j, x = .ref n ∧ y = .int k ∧ st2[n]? = some (.lst ys) ∧ ixN ys.length k = some j ∧ Q env (st2.set n (.lst (ys.set j v)))
section
variable {X : Cx} {o i : Expr} {wo wi : WE} {pos : Pos}
theorem dg_ix (ho : DE X o wo) (hi : DE X i wi) (ha : ∀ v, assign (.Subscript o i pos) X.env v = (do
      let ov ← holding [v] (eval o X.env)
      let iv ← holding [v, ov] (eval i X.env)
      standAt pos
      holding [v, ov, iv] (setItem ov iv v)
      release [v, ov, iv] []) := by exact asub_no (by rfl)) : DG X (.Subscript o i pos) [] (gIx wo wi) := by
  refine ⟨?_⟩
  intro ro fr σ H env st x v Q E S r hw
  refine toWG (pg_sub (pe_W X o) (pe_W X i) (set_W X) ha) ?_
  refine tW.mono (ho _ _ _ _ _ _ _ E S hw) fun v1 H1 ⟨ro1, x1, st1, e1, S1, r1, h1⟩ => ?_
  refine tW.mono (hi _ _ _ _ _ _ _ (E.ext e1) S1 h1) fun v2 H2 ⟨ro2, y, st2, e2, S2, r2, n, k, ys, j, hx, hy, hn, hj, q⟩ => ?_
  subst hx; subst hy
  have r1' := r1.ext e2
  cases r2
  cases r1' with
  | @ref a _ ha =>
    obtain ⟨us, hu, ru⟩ := S2.at_ n _ a hn ha
    refine toSet set_list ⟨a, us, k, j, rfl, rfl, hu, by rw [← ru.length]; exact hj, ⟨rfl, fun _ _ => rfl⟩, ?_⟩
    have e3 : Ext ro2 H2 ro2 (upd H2 a (.lst (us.set j v))) := ext_set (List.mem_of_getElem? ha)
    have ee := (e1.trans e2).trans e3
    exact ⟨ro2, env, _, ee, S2.set (c := .lst (ys.set j x)) ha ⟨_, upd_same, (ru.set j ((r.ext e1).ext e2)).ext e3⟩, E.ext ee, q⟩
end
end Pv
namespace Pv
open PySem PySem.Spec L2
def eqA : OpP := fun x y st Q => match x, y with
  | .str a, .str b => Q (.bl (a == b)) st
  | x, y => eqR x y st Q
def neA : OpP := fun x y st Q => match x, y with
  | .str a, .str b => Q (.bl (a != b)) st
  | x, y => neR x y st Q
section
variable {X : Cx}
theorem op_eqS : OpR X (compareOp .Eq) (fun x y H Q => ∃ a b, x = .str a ∧ y = .str b ∧ Q (.bl (a == b)) H) := by
  intro pins s σ H x y v u Q I rx ry ⟨a, b, ex, ey, q⟩
  subst ex; subst ey
  obtain ⟨t, rfl⟩ := rx
  obtain ⟨t', rfl⟩ := ry
  exact PyProof.Rows.eq_str ⟨.bl _, H, I, rfl, q⟩
theorem op_neS : OpR X (compareOp .NotEq) (fun x y H Q => ∃ a b, x = .str a ∧ y = .str b ∧ Q (.bl (a != b)) H) := by
  intro pins s σ H x y v u Q I rx ry ⟨a, b, ex, ey, q⟩
  subst ex; subst ey
  obtain ⟨t, rfl⟩ := rx
  obtain ⟨t', rfl⟩ := ry
  exact PyProof.Rows.ne_str ⟨.bl _, H, I, rfl, q⟩
theorem dop_eqA {k : Nat} (G : XG k X) : DOp X (compareOp .Eq) eqA := by
  refine ⟨?_⟩
  intro ro fr H st x y v u Q S rx ry h
  unfold eqA at h
  split at h
  · cases rx; cases ry
    exact toRW op_eqS ⟨_, _, rfl, rfl, ro, _, st, .refl, S, .bl _, h⟩
  · exact dop_eq G _ _ _ _ _ _ _ _ _ S rx ry h
theorem dop_neA {k : Nat} (G : XG k X) : DOp X (compareOp .NotEq) neA := by
  refine ⟨?_⟩
  intro ro fr H st x y v u Q S rx ry h
  unfold neA at h
  split at h
  · cases rx; cases ry
    exact toRW op_neS ⟨_, _, rfl, rfl, ro, _, st, .refl, S, .bl _, h⟩
  · exact dop_ne G _ _ _ _ _ _ _ _ _ S rx ry h
def reprR : CaP := fun xs st Q => ∃ x d, xs = [x] ∧ datS st x = some d ∧ d.showable = true ∧ d.depth ≤ 64 ∧ d.shown.length ≤ sizeLine ∧ Q (.str d.shown) st
mutual
theorem noDict_dat : ∀ x : PV, isD x = true → (dat x).hasDict = false
  | .non, _ => rfl
  | .bl _, _ => rfl
  | .int _, _ => rfl
  | .str _, _ => rfl
  | .tup xs, h => by simp only [dat, PyData.hasDict]; exact noDict_dats xs (by simpa only [isD] using h)
  | .lst xs, h => by simp only [dat, PyData.hasDict]; exact noDict_dats xs (by simpa only [isD] using h)
  | .fls xs, h => by simp only [dat, PyData.hasDict]; exact noDict_dats xs (by simpa only [isD] using h)
  | .ptp _, h => by simp only [isD] at h; cases h
  | .fn _, h => by simp only [isD] at h; cases h
  | .ins _ _ _, h => by simp only [isD] at h; cases h
  | .dk _ _, h => by simp only [isD] at h; cases h
  | .ref _, h => by simp only [isD] at h; cases h
theorem noDict_dats : ∀ xs : List PV, isDs xs = true → PyData.hasDictAll (dats xs) = false
  | [], _ => rfl
  | x :: xs, h => by
    simp only [isDs, Bool.and_eq_true] at h
    simp only [dats, PyData.hasDictAll, noDict_dat x h.1, noDict_dats xs h.2, Bool.or_self]
end
end
section
variable {X : Cx} {es es' : List Expr} {k : Nat} {pos : Pos} {t : TGs} {n i : Nat}
theorem pg_star (hc : X.calm = true) (h : PGs X es' t) (hi : i < n) (hn : (assignEach es X.env).length = n) (hst : (assignEach es X.env).findIdx? (·.1) = some i) (hm : (assignEach es X.env).map (·.2) = (assignEach es' X.env).map (·.2)) :
    PG X (.Tuple es k pos) (fun v σ H Q => ∃ a xs, v = .ref a ∧ SqT X.K H a xs ∧ n ≤ xs.length + 1 ∧ ∀ D, H D = none →
      t (xs.take i ++ [.ref D] ++ (xs.drop i).drop (xs.length + 1 - n)) σ (upd H D (.lst ((xs.drop i).take (xs.length + 1 - n)))) Q) := by
  refine ⟨fun pins s σ H v u Q I r hw => ?_⟩
  obtain ⟨l, xs, e1, hq, hle, hw⟩ := hw
  subst e1
  cases r
  obtain ⟨its, rv, ht, hz⟩ := I.tuple hq
  have hlen := rv.length
  rw [PyProof.Rows.assign_Tuple]
  refine wpAny_bind (wpAny_standAt ?_)
  unfold unpack
  rw [hn, hst, hm]
  refine wpAny_bind (wpAny_holding ?_)
  have hl : PyProof.Rows.IsTup s.heap l its.toArray := ht
  have hlt : l ≠ s.heap.objs.size := by obtain ⟨o, ho, _⟩ := hl; exact Nat.ne_of_lt (Heap.lt_size ho)
  have hsz : its.toArray.size = xs.length := by simp [hlen]
  unfold unpackItems
  refine wpAny_bind ?_
  unfold notIterableAtAll
  refine wpAny_bind (wpAny_specialOf hl.typeIs PyProof.Rows.slot_tuple_iter.lookup ?_)
  refine wpAny_pure ?_
  simp only [Bool.false_eq_true, if_false]
  refine wpAny_bind (wpAny_holding (PyProof.Rows.iter_tuple hl ?_))
  refine wpAny_bind (wpAny_holding (PyProof.Rows.draw_tuple hlt i 0 _ _ ⟨_, Heap.get?_push_size _ rfl, rfl, rfl⟩ (hl.push _) (by omega) fun h₁ hit₁ hs₁ => ?_))
  have hl₁ : PyProof.Rows.IsTup h₁ l its.toArray := (hl.push _).extBut hs₁.extBut hlt
  rw [Nat.zero_add] at hit₁
  have hit₁' := hit₁
  obtain ⟨oi, hoi, _⟩ := hit₁'
  have hl₁' := hl₁
  obtain ⟨ol, hol, _⟩ := hl₁'
  rw [List.drop_zero]
  have hfl : (its.toArray.toList.take i).length = i := by rw [List.length_take, Array.length_toList]; omega
  rw [if_neg (show ¬ ((its.toArray.toList.take i).length < i) by rw [hfl]; omega)]
  refine wpAny_bind (wpAny_holding (PySem.W.kun_collect (s := { s with heap := h₁ }) (T := "tuple_iterator") (.inr (.inr (.inr rfl))) (Walks.tuple (A := X.A.in1) (I.ok.hd hc) s.heap.objs.size l hlt its.toArray) (fun j u st => st.1.typeIs) (k := i) (by omega) ⟨hit₁, hl₁⟩ (Heap.lt_size hoi) (Heap.lt_size hol) (fun h₂ tk hk => ?_) (by omega)))
  have hrl : (its.toArray.toList.drop i).length = its.toArray.size - i := by rw [List.length_drop, Array.length_toList]
  have hmid : (its.toArray.toList.drop i).length - (n - 1 - i) = xs.length + 1 - n := by rw [hrl]; omega
  show wpAny _ _ (if (its.toArray.toList.drop i).length < n - 1 - i then _ else _) _ _ _
  rw [if_neg (by rw [hrl]; omega)]
  show wpAny _ _ (newList ((its.toArray.toList.drop i).take ((its.toArray.toList.drop i).length - (n - 1 - i))) >>= fun d => pure (its.toArray.toList.take i ++ [d] ++ (its.toArray.toList.drop i).drop ((its.toArray.toList.drop i).length - (n - 1 - i)))) _ _ _
  rw [hmid]
  have he : Heap.ExtBut s.heap.objs.size s.heap h₂ := fun b o hb e => hk b o hb (hs₁.extBut b o hb (Heap.get?_push_of_some _ e))
  have I2 : Inv X pins σ H { s with heap := h₂, toks := tk } := I.kept fun b o e => he b o (Nat.ne_of_lt (Heap.lt_size e)) e
  simp only [List.toList_toArray]
  have rmid : Vals ((xs.drop i).take (xs.length + 1 - n)) ((its.drop i).take (xs.length + 1 - n)) := (rv.drop i).take _
  have zmid : ((xs.drop i).take (xs.length + 1 - n)).length ≤ sizeLine := by rw [List.length_take, List.length_drop]; omega
  refine wpAny_bind (wpAny_newList ?_ (by rw [← rmid.length]; exact zmid))
  have I3 := I2.lnew (t' := tk) rmid zmid
  refine wpAny_pure ?_
  exact h.run pins _ σ _ _ _ Q I3 (((rv.take i).append (.cons (show RelV (V.ref _) (Value.ref _) from rfl) .nil)).append ((rv.drop i).drop _)) (hw _ I2.fresh)
theorem walks_shift {prog : Program} {w : World} {A : Around} {I : Addr} {fp wr : List Addr} {n k : Nat} {P : Nat → Value → Prop} {St : Nat → Heap → Prop} (W : Walks prog w A I fp wr n P St) (hk : k ≤ n) : Walks prog w A I fp wr (n - k) (fun i => P (k + i)) (fun i => St (k + i)) where
  sub := W.sub
  frame := fun i h h' st hh => W.frame (k + i) h h' st hh
  item := fun i s Q E hi st hQ => W.item (k + i) s Q E (by omega) st hQ
  done := fun s Q E st hQ => W.done s Q E (by rw [show n = k + (n - k) by omega]; exact st) hQ
  self := fun i s Q E st hQ => W.self (k + i) s Q E st hQ
theorem draw_walks {prog : Program} {w : World} {A : Around} {E : Value → Shared → Prop} {I : Addr} {n : Nat} {P : Nat → Value → Prop} {St : Nat → Heap → Prop} (W : Walks prog w A.in1 I [I] [I] n P St) :
    ∀ (k i : Nat) (s : Shared) (Q : List Value → Shared → Prop), St i s.heap → i + k ≤ n →
      (∀ vs h' tk, vs.length = k → (∀ j v, vs[j]? = some v → P (i + j) v) → St (i + k) h' → (∀ b o, b ≠ I → s.heap.get? b = some o → h'.get? b = some o) → Q vs { s with heap := h', toks := tk }) → wpAny (model prog w) A (draw (.ref I) k) Q E s
  | 0, i, s, Q, st, hk, hQ => by
    have := hQ [] s.heap s.toks rfl (fun j v h => by simp at h) st fun _ _ _ e => e
    exact wpAny_pure this
  | k + 1, i, s, Q, st, hk, hQ => by
    unfold draw
    refine wpAny_bind (wpAny_of_in1 (W.item i s _ _ (by omega) st fun v h' tk pv st' fr => ?_))
    refine wpAny_bind (wpAny_holding ?_)
    refine draw_walks W k (i + 1) { s with heap := h', toks := tk } _ st' (by omega) fun vs h2 tk2 hl hp st2 fr2 => ?_
    refine wpAny_pure (hQ (v :: vs) h2 tk2 (by simp [hl]) (fun j u hj => ?_) (by rw [show i + (k + 1) = i + 1 + k by omega]; exact st2) fun b o hb e => fr2 b o hb (fr b o (by simpa using hb) e))
    cases j with
    | zero => simp at hj; subst hj; exact pv
    | succ j => rw [show i + (j + 1) = i + 1 + j by omega]; exact hp j u (by simpa using hj)
theorem vals_by : ∀ {xs : List V} {us : List Value}, xs.length = us.length → (∀ (i : Nat) x u, xs[i]? = some x → us[i]? = some u → RelV x u) → Vals xs us
  | [], [], _, _ => .nil
  | [], _ :: _, h, _ => by simp at h
  | _ :: _, [], h, _ => by simp at h
  | x :: xs, u :: us, h, g => .cons (g 0 x u (by simp) (by simp)) (vals_by (by simpa using h) fun i y v e1 e2 => g (i + 1) y v (by simpa using e1) (by simpa using e2))
def signsV (z : Str) : List V := z.cps.toList.map fun c => .str ⟨#[c]⟩
theorem signs_vals {z : Str} {vs : List Value} (hl : vs.length = z.cps.size) (h : ∀ j v, vs[j]? = some v → SignAt z j v) : Vals (signsV z) vs := by
  refine vals_by (by simp [signsV, hl]) fun i x u e1 e2 => ?_
  obtain ⟨c, t, hc, rfl⟩ := h i u e2
  simp only [signsV, List.getElem?_map, Option.map_eq_some_iff] at e1
  obtain ⟨c', e3, rfl⟩ := e1
  rw [Array.getElem?_toList] at e3
  rw [hc] at e3
  cases e3
  exact ⟨t, rfl⟩
theorem pg_starS (hc : X.calm = true) (h : PGs X es' t) (hi : i < n) (hn : (assignEach es X.env).length = n) (hst : (assignEach es X.env).findIdx? (·.1) = some i) (hm : (assignEach es X.env).map (·.2) = (assignEach es' X.env).map (·.2)) :
    PG X (.Tuple es k pos) (fun v σ H Q => ∃ z, v = .str z ∧ z.length ≤ sizeLine ∧ n ≤ z.length + 1 ∧ ∀ D, H D = none →
      t ((signsV z).take i ++ [.ref D] ++ ((signsV z).drop i).drop ((signsV z).length + 1 - n)) σ (upd H D (.lst (((signsV z).drop i).take ((signsV z).length + 1 - n)))) Q) := by
  refine ⟨fun pins s σ H v u Q I r hw => ?_⟩
  obtain ⟨z, e1, hz, hle, hw⟩ := hw
  subst e1
  obtain ⟨tk0, rfl⟩ := r
  rw [PyProof.Rows.assign_Tuple]
  refine wpAny_bind (wpAny_standAt ?_)
  unfold unpack
  rw [hn, hst, hm]
  refine wpAny_bind (wpAny_holding ?_)
  unfold unpackItems
  refine wpAny_bind ?_
  unfold notIterableAtAll
  refine wpAny_bind (wpAny_specialOf (typeIs_str s z tk0) PySem.F.slot_str_iter.lookup ?_)
  refine wpAny_pure ?_
  simp only [Bool.false_eq_true, if_false]
  refine wpAny_bind (wpAny_holding ?_)
  have hh := I.ok.hd hc
  cases ha : z.cps.all (· < 128)
  · refine wpAny_pyIter_wide ha ?_
    have st0 : (s.heap.push { cls := .type "str_iterator", data := .fields #[.str z tk0, .int 0 0] }).IsStrIter s.heap.objs.size "str_iterator" z tk0 0 := ⟨_, Heap.get?_push_size _ rfl, rfl, rfl⟩
    have Wk := Walks.strWide (prog := X.prog) (w := X.w) (A := X.A.in1) hh s.heap.objs.size z tk0
    have hzl : z.cps.size = z.length := rfl
    refine wpAny_bind (wpAny_holding (draw_walks Wk i 0 _ _ st0 (by omega) fun vs h1 tk1 hvl hvp st1 fr1 => ?_))
    rw [if_neg (show ¬ (vs.length < i) by omega)]
    rw [Nat.zero_add] at st1
    refine wpAny_bind (wpAny_holding (wpAny_collect_iter (T := "str_iterator") (.inr (.inl rfl)) (walks_shift (k := i) Wk (by omega)).toS (fun j u st => let ⟨o, ho, hc, _⟩ := st; ⟨o, ho, hc⟩) st1 (fun b hb => ?_) (List.mem_cons_self ..) (fun s' acc hmv hacc => ?_) (by omega)))
    · rw [List.mem_singleton.mp hb]
      obtain ⟨o, ho, _⟩ := st1
      exact Heap.lt_size ho
    obtain ⟨h2, g2, d2, t2, o2⟩ := s'
    obtain ⟨m1, m2, m3, m4, m5⟩ := hmv
    have m2 : g2 = s.gens := m2
    have m3 : d2 = s.drawn := m3
    have m4 : o2 = s.os := m4
    subst m2; subst m3; subst m4
    have hal : acc.toList.length = z.length - i := by rw [Array.length_toList, hacc.1]; omega
    have hvals : Vals (signsV z) (vs ++ acc.toList) := signs_vals (by rw [List.length_append]; omega) fun j v hj => by
      by_cases hji : j < i
      · rw [List.getElem?_append_left (by omega)] at hj
        have := hvp j v hj
        rwa [Nat.zero_add] at this
      · rw [List.getElem?_append_right (by omega), Array.getElem?_toList] at hj
        have this : SignAt z (i + (j - vs.length)) v := hacc.2 (j - vs.length) v hj
        rwa [show i + (j - vs.length) = j by omega] at this
    have hsl : (signsV z).length = z.length := by simp [signsV, Str.length]
    show wpAny _ _ (if acc.toList.length < n - 1 - i then _ else _) _ _ _
    rw [if_neg (by omega)]
    show wpAny _ _ (newList (acc.toList.take (acc.toList.length - (n - 1 - i))) >>= fun d => pure (vs ++ [d] ++ acc.toList.drop (acc.toList.length - (n - 1 - i)))) _ _ _
    have hmid : acc.toList.length - (n - 1 - i) = (signsV z).length + 1 - n := by omega
    rw [hmid]
    have he : ∀ b o, s.heap.get? b = some o → h2.get? b = some o := fun b o e => by
      have hb : b ≠ s.heap.objs.size := Nat.ne_of_lt (Heap.lt_size e)
      exact m1 b o (fun h => hb (List.mem_singleton.mp h)) (fr1 b o hb (Heap.get?_push_of_some _ e))
    have I2 : Inv X pins σ H { s with heap := h2, toks := t2 } := I.kept he
    have e1 : (vs ++ acc.toList).take i = vs := by rw [List.take_append_of_le_length (by omega), List.take_of_length_le (by omega)]
    have e2 : (vs ++ acc.toList).drop i = acc.toList := by rw [List.drop_append_of_le_length (by omega), List.drop_of_length_le (by omega), List.nil_append]
    have r1 : Vals ((signsV z).take i) vs := by have := hvals.take i; rwa [e1] at this
    have r2 : Vals ((signsV z).drop i) acc.toList := by have := hvals.drop i; rwa [e2] at this
    have rmid := r2.take ((signsV z).length + 1 - n)
    have zmid : (((signsV z).drop i).take ((signsV z).length + 1 - n)).length ≤ sizeLine := by rw [List.length_take, List.length_drop]; omega
    refine wpAny_bind (wpAny_newList ?_ (by rw [← rmid.length]; exact zmid))
    have I3 := I2.lnew (t' := t2) rmid zmid
    refine wpAny_pure ?_
    exact h.run pins _ σ _ _ _ Q I3 ((r1.append (.cons (show RelV (V.ref _) (Value.ref _) from rfl) .nil)).append (r2.drop _)) (hw _ I2.fresh)
  · refine wpAny_pyIter_ascii ha ?_
    have st0 : (s.heap.push { cls := .type "str_ascii_iterator", data := .fields #[.str z tk0, .int 0 0] }).IsStrIter s.heap.objs.size "str_ascii_iterator" z tk0 0 := ⟨_, Heap.get?_push_size _ rfl, rfl, rfl⟩
    have Wk := Walks.strAscii (prog := X.prog) (w := X.w) (A := X.A.in1) hh s.heap.objs.size z tk0
    have hzl : z.cps.size = z.length := rfl
    refine wpAny_bind (wpAny_holding (draw_walks Wk i 0 _ _ st0 (by omega) fun vs h1 tk1 hvl hvp st1 fr1 => ?_))
    rw [if_neg (show ¬ (vs.length < i) by omega)]
    rw [Nat.zero_add] at st1
    refine wpAny_bind (wpAny_holding (wpAny_collect_iter (T := "str_ascii_iterator") (.inl rfl) (walks_shift (k := i) Wk (by omega)).toS (fun j u st => let ⟨o, ho, hc, _⟩ := st; ⟨o, ho, hc⟩) st1 (fun b hb => ?_) (List.mem_cons_self ..) (fun s' acc hmv hacc => ?_) (by omega)))
    · rw [List.mem_singleton.mp hb]
      obtain ⟨o, ho, _⟩ := st1
      exact Heap.lt_size ho
    obtain ⟨h2, g2, d2, t2, o2⟩ := s'
    obtain ⟨m1, m2, m3, m4, m5⟩ := hmv
    have m2 : g2 = s.gens := m2
    have m3 : d2 = s.drawn := m3
    have m4 : o2 = s.os := m4
    subst m2; subst m3; subst m4
    have hal : acc.toList.length = z.length - i := by rw [Array.length_toList, hacc.1]; omega
    have hvals : Vals (signsV z) (vs ++ acc.toList) := signs_vals (by rw [List.length_append]; omega) fun j v hj => by
      by_cases hji : j < i
      · rw [List.getElem?_append_left (by omega)] at hj
        have := hvp j v hj
        rwa [Nat.zero_add] at this
      · rw [List.getElem?_append_right (by omega), Array.getElem?_toList] at hj
        have this : SignAt z (i + (j - vs.length)) v := hacc.2 (j - vs.length) v hj
        rwa [show i + (j - vs.length) = j by omega] at this
    have hsl : (signsV z).length = z.length := by simp [signsV, Str.length]
    show wpAny _ _ (if acc.toList.length < n - 1 - i then _ else _) _ _ _
    rw [if_neg (by omega)]
    show wpAny _ _ (newList (acc.toList.take (acc.toList.length - (n - 1 - i))) >>= fun d => pure (vs ++ [d] ++ acc.toList.drop (acc.toList.length - (n - 1 - i)))) _ _ _
    have hmid : acc.toList.length - (n - 1 - i) = (signsV z).length + 1 - n := by omega
    rw [hmid]
    have he : ∀ b o, s.heap.get? b = some o → h2.get? b = some o := fun b o e => by
      have hb : b ≠ s.heap.objs.size := Nat.ne_of_lt (Heap.lt_size e)
      exact m1 b o (fun h => hb (List.mem_singleton.mp h)) (fr1 b o hb (Heap.get?_push_of_some _ e))
    have I2 : Inv X pins σ H { s with heap := h2, toks := t2 } := I.kept he
    have e1 : (vs ++ acc.toList).take i = vs := by rw [List.take_append_of_le_length (by omega), List.take_of_length_le (by omega)]
    have e2 : (vs ++ acc.toList).drop i = acc.toList := by rw [List.drop_append_of_le_length (by omega), List.drop_of_length_le (by omega), List.nil_append]
    have r1 : Vals ((signsV z).take i) vs := by have := hvals.take i; rwa [e1] at this
    have r2 : Vals ((signsV z).drop i) acc.toList := by have := hvals.drop i; rwa [e2] at this
    have rmid := r2.take ((signsV z).length + 1 - n)
    have zmid : (((signsV z).drop i).take ((signsV z).length + 1 - n)).length ≤ sizeLine := by rw [List.length_take, List.length_drop]; omega
    refine wpAny_bind (wpAny_newList ?_ (by rw [← rmid.length]; exact zmid))
    have I3 := I2.lnew (t' := t2) rmid zmid
    refine wpAny_pure ?_
    exact h.run pins _ σ _ _ _ Q I3 ((r1.append (.cons (show RelV (V.ref _) (Value.ref _) from rfl) .nil)).append (r2.drop _)) (hw _ I2.fresh)
def signsP (z : Str) : List PV := z.cps.toList.map fun c => .str ⟨#[c]⟩
/-- what is taken apart -/
def unpS : PV → Option (List PV)
  | .tup xs => some xs
  | .str z => some (signsP z)
  | _ => none
theorem reps_signs {K : PySem.W.Frag} {ro fr : List Addr} {H : Hp} (z : Str) : RepVs K ro fr H (signsP z) (signsV z) := by
  unfold signsP signsV
  generalize z.cps.toList = l
  induction l with
  | nil => exact .nil
  | cons c l ih => exact .cons (.str _) ih
def gStar (m : Bool) (n i : Nat) (gs : List PV → Envp → Sto → (Envp → Sto → Prop) → Prop) : WG := fun x env st Q => ∃ xs, unpS x = some xs ∧ xs.length ≤ sizeLine ∧ n ≤ xs.length + 1 ∧
  newL m ((xs.drop i).take (xs.length + 1 - n)) st fun y st1 => gs (xs.take i ++ [y] ++ (xs.drop i).drop (xs.length + 1 - n)) env st1 Q
theorem dg_star (m : Bool) {sl : List Nat} {gs} (es' : List Expr) (n i : Nat) (hc : X.calm = true) (h : DGs X es' sl gs) (hi : i < n := by decide) (hn : (assignEach es X.env).length = n := by exact asg_len.trans (by rfl)) (hst : (assignEach es X.env).findIdx? (·.1) = some i := by rfl)
    (hm : (assignEach es X.env).map (·.2) = (assignEach es' X.env).map (·.2) := by rfl) : DG X (.Tuple es k pos) sl (gStar m n i gs) := by
  refine ⟨?_⟩
  intro ro fr σ H env st x v Q E S r ⟨xs, hx, hz, hl, q⟩
  cases r with
  | @tup a ys vs h1 h2 =>
    simp only [unpS, Option.some.injEq] at hx
    subst hx
    refine toWG (pg_star hc (pgs_W X es') hi hn hst hm) ⟨a, vs, rfl, h1.sq, by rw [← h2.length]; exact hl, fun D hD => ?_⟩
    rw [← h2.length]
    obtain ⟨ro1, y, st1, e1, S1, r1, q1⟩ := new_lst m S ((h2.drop i).take (ys.length + 1 - n)) hD q
    refine tWGs.mono (h _ _ _ _ _ _ _ _ _ (E.ext e1) S1 ((((h2.take i).ext e1).append (.cons r1 .nil)).append (((h2.drop i).drop _).ext e1)) q1) fun σ2 H2 ⟨a2, q2⟩ => ⟨a2, q2.ext e1⟩
  | str z =>
    simp only [unpS, Option.some.injEq] at hx
    subst hx
    have h2 := reps_signs (K := X.K) (ro := ro) (fr := fr) (H := H) z
    have hzl : (signsP z).length = z.length := by simp [signsP, Str.length]
    refine toWG (pg_starS hc (pgs_W X es') hi hn hst hm) ⟨z, rfl, by omega, by omega, fun D hD => ?_⟩
    rw [← h2.length]
    obtain ⟨ro1, y, st1, e1, S1, r1, q1⟩ := new_lst m S ((h2.drop i).take ((signsP z).length + 1 - n)) hD q
    refine tWGs.mono (h _ _ _ _ _ _ _ _ _ (E.ext e1) S1 ((((h2.take i).ext e1).append (.cons r1 .nil)).append (((h2.drop i).drop _).ext e1)) q1) fun σ2 H2 ⟨a2, q2⟩ => ⟨a2, q2.ext e1⟩
  | _ => cases hx
end
def kP : PV → Option Key
  | .int i => some (.inl i)
  | .str s => some (.inr s)
  | _ => none
def kPs : List PV → Option (List Key)
  | [] => some []
  | x :: xs => match kP x, kPs xs with
    | some k, some ks => some (k :: ks)
    | _, _ => none
/-- the value at a key -/
def getP : List Key → List PV → Key → Option PV
  | k' :: ks, x :: xs, k => if k' = k then some x else getP ks xs k
  | _, _, _ => none
/-- in its place, or at the end -/
def putP : List Key → List PV → Key → PV → List Key × List PV
  | k' :: ks, x :: xs, k, y => if k' = k then (k' :: ks, y :: xs) else ((k' :: (putP ks xs k y).1), x :: (putP ks xs k y).2)
  | _, _, k, y => ([k], [y])
/-- a dict as keys and values -/
def dkP (st : Sto) : PV → Option (List Key × List PV)
  | .dk ks xs => some (ks, xs)
  | .ref n => match st[n]? with
    | some (.dk ks xs) => some (ks, xs)
    | some (.fdk _ _ ks xs) => some (ks, xs)
    | _ => none
  | _ => none
def dgetR : OpP := fun x y st Q => ∃ ks xs k z, dkP st x = some (ks, xs) ∧ kP y = some k ∧ getP ks xs k = some z ∧ Q z st
end Pv
namespace Pv
open PySem PySem.Spec L2
def ZSt (z TI TO i1 i2 a b S : Addr) (i : Nat) (h : Heap) : Prop := (∃ o, h.get? TO = some o) ∧ IsPair h TI (.ref i1) (.ref i2) ∧ h.IsListIter i1 a i ∧ h.IsListIter i2 b i ∧
  ((IsZip h z TI TO .none ∧ ∃ p q, IsPair h TO p q) ∨ ∃ T f oT, IsZipHeld h z TI TO T f ∧ h.get? T = some oT ∧ T ≠ z ∧ T ≠ i1 ∧ T ≠ i2 ∧ T ≠ S)
/-- the pairs made so far -/
def Pairs (H0 H : Hp) (xs ys : List V) (as : List Addr) : Prop := ∀ (j : Nat) (t : Addr), as[j]? = some t → H0 t = none ∧ ∃ x y, xs[j]? = some x ∧ ys[j]? = some y ∧ H t = some (.tup [x, y])
theorem ZSt.at {z TI TO i1 i2 a b S : Addr} {i : Nat} {h h' : Heap} (st : ZSt z TI TO i1 i2 a b S i h) (hS : z ≠ S ∧ TI ≠ S ∧ TO ≠ S ∧ i1 ≠ S ∧ i2 ≠ S) (k : ∀ c o, c ≠ S → h.get? c = some o → h'.get? c = some o) : ZSt z TI TO i1 i2 a b S i h' := by
  obtain ⟨⟨oTO, hoTO⟩, hTI, h1, h2, hz⟩ := st
  obtain ⟨n1, n2, n3, n4, n5⟩ := hS
  refine ⟨⟨_, k _ _ n3 hoTO⟩, k _ _ n2 hTI, h1.at fun o e => k _ o n4 e, h2.at fun o e => k _ o n5 e, ?_⟩
  rcases hz with ⟨hz, p, q, hTO⟩ | ⟨T, f, oT, hz, hT, r1, r2, r3, r4⟩
  · exact .inl ⟨k _ _ n1 hz, p, q, k _ _ n3 hTO⟩
  · exact .inr ⟨T, f, oT, k _ _ n1 hz, k _ _ r4 hT, r1, r2, r3, r4⟩
end Pv
namespace Pv
open PySem PySem.Spec L2
section
variable {K : PySem.W.Frag} {ro fr : List Addr} {H H' : Hp} {st : Sto}
def zipP (xs ys : List PV) : List PV := (xs.zip ys).map fun p => .tup [p.1, p.2]
end
def zipLR (m : Bool) : CaP := fun xs st Q => ∃ x y as bs, xs = [x, y] ∧ lstP st x = some as ∧ lstP st y = some bs ∧ newL m (zipP as bs) st Q
abbrev WP := Envp → Sto → (List (PV × PV) → Sto → Prop) → Prop
def wPairs : List (WE × WE) → WP
  | [], _, st, Q => Q [] st
  | (wk, wv) :: r, env, st, Q => wk env st fun x st1 => wv env st1 fun y st2 => wPairs r env st2 fun ps st3 => Q ((x, y) :: ps) st3
inductive DPr (X : Cx) : List (Option Expr) → List Expr → List (WE × WE) → Prop
  | nil : DPr X [] [] []
  | cons {k v ks vs wk wv ws} : DE X k wk → DE X v wv → DPr X ks vs ws → DPr X (some k :: ks) (v :: vs) ((wk, wv) :: ws)
def newD (m : Bool) (ks : List Key) (xs : List PV) (st : Sto) (Q : PV → Sto → Prop) : Prop := match m with
  | true => Q (.ref st.length) (st ++ [.dk ks xs])
  | false => Q (.dk ks xs) st
def wDisp (m : Bool) (ws : List (WE × WE)) : WE := fun env st Q => wPairs ws env st fun ps st1 => ∃ ks, kPs (ps.map (·.1)) = some ks ∧ (ks.length ≤ 15 ∧ ks.Nodup) ∧ newD m ks (ps.map (·.2)) st1 Q
section
variable {X : Cx} {ks : List (Option Expr)} {vs : List Expr} {ws : List (WE × WE)} {pos : Pos}
theorem DPr.len (d : DPr X ks vs ws) : ks.length = vs.length ∧ ks.all (·.isSome) = true := by
  induction d with
  | nil => exact ⟨rfl, rfl⟩
  | cons _ _ _ ih => exact ⟨by simp [ih.1], by simpa using ih.2⟩
end
def sPar (i j : Nat) (wa : WA) : WS := fun D env st => wa env st fun xs st1 => ∃ x y, xs = [x, y] ∧ D.nx ((env.set i (some x)).set j (some y)) st1
end Pv
namespace Pv
open PySem PySem.Spec L2
section
variable {X : Cx}
theorem dv (i : Nat) {x : Str} {pos : Pos} (hN : X.N[i]? = some x := by rfl) (hv : Vis X.env.scope x := by first | exact Or.inl rfl | exact Or.inr (Or.inl rfl) | exact Or.inr (Or.inr rfl)) (hd : (x == ("__debug__" : Str)) = false := by decide +kernel)
    (hcd : (x == ("__classdict__" : Str)) = false := by decide +kernel) : DE X (.Name x pos) (wVar i) := d_var hN hv hd hcd
theorem lookup_rel {E : Env} {x : Str} {k : NameKind} : ∀ {names : List (Str × NameKind)}, names.lookup x = some k →
    (names.map fun (n, k) => if (k == NameKind.free && E.scope.kind == .function && E.kindOf n == some .cell) then (n, NameKind.cell) else (n, k)).lookup x = some k ∨
      (k = .free ∧ (names.map fun (n, k) => if (k == NameKind.free && E.scope.kind == .function && E.kindOf n == some .cell) then (n, NameKind.cell) else (n, k)).lookup x = some .cell)
  | [], h => by simp at h
  | (n, k') :: r, h => by
    rw [List.lookup_cons] at h
    rw [List.map_cons]
    by_cases e : (x == n) = true
    · rw [e] at h
      cases h
      by_cases c : (k == NameKind.free && E.scope.kind == .function && E.kindOf n == some .cell) = true
      · refine .inr ⟨?_, ?_⟩
        · simp only [Bool.and_eq_true] at c
          have c1 := c.1.1
          revert c1
          cases k <;> first | (intro _; rfl) | (intro c1; exact absurd c1 (by decide))
        · simp only [c, if_true, List.lookup_cons, e]
      · simp only [c, if_false, List.lookup_cons, e, Bool.false_eq_true]; exact .inl trivial
    · simp only [Bool.not_eq_true] at e
      rw [e] at h
      have ih := lookup_rel (E := E) (names := r) h
      by_cases c : (k' == NameKind.free && E.scope.kind == .function && E.kindOf n == some .cell) = true
      · simp only [c, if_true, List.lookup_cons, e]; exact ih
      · simp only [c, if_false, List.lookup_cons, e, Bool.false_eq_true]; exact ih
section
variable {s : Shared} {H : Hp} {sc scope : Scope} {cl : List (Str × Addr)} {C : Addr} {E : Env} {fp : List Addr} {x : Str}
theorem vis_blk (h : Vis sc x) : Vis (X.blk s H sc (compEnvC sc cl C E) fp).env.scope x := by
  rcases h with h | h | h
  · rcases lookup_rel (E := E) h with q | ⟨q, _⟩
    · exact .inl q
    · cases q
  · rcases lookup_rel (E := E) h with q | ⟨q, _⟩
    · exact .inr (.inl q)
    · cases q
  · rcases lookup_rel (E := E) h with q | ⟨_, q⟩
    · exact .inr (.inr q)
    · exact .inr (.inl q)
theorem loc_blk (h : Loc sc x) : Loc (X.blk s H sc (compEnvC sc cl C E) fp).env.scope x := by
  rcases h with h | h
  · rcases lookup_rel (E := E) h with q | ⟨q, _⟩
    · exact .inl q
    · cases q
  · rcases lookup_rel (E := E) h with q | ⟨q, _⟩
    · exact .inr q
    · cases q
theorem fl_blk (h : sc.names.lookup x = some .local) : (X.blk s H sc (compEnvC sc cl C E) fp).fn x = true ∨ (X.blk s H sc (compEnvC sc cl C E) fp).env.scope.names.lookup x = some .local := by
  rcases lookup_rel (E := E) h with q | ⟨q, _⟩
  · exact .inr q
  · cases q
theorem fc_blk (h : sc.names.lookup x = some .cell) : (X.blk s H sc (compEnvC sc cl C E) fp).fn x = true ∨ (X.blk s H sc (compEnvC sc cl C E) fp).env.scope.names.lookup x = some .local := .inl (by
  show (sc.names.lookup x == some .cell) = true
  rw [h]; rfl)
theorem gl_blk (h : sc.names.lookup x = some .globalImplicit) : Gl (X.blk s H sc (compEnvC sc cl C E) fp) x := by
  rcases lookup_rel (E := E) h with q | ⟨q, _⟩
  · exact q
  · cases q
theorem blk_in {N : List Str} {own : List (Str × Nat)} (h : blkC N sc scope own = true) : BlkOk N (X.blk s H sc (compEnvC sc cl C E) fp).env.scope scope own := by
  have b := blkOk_by h
  refine ⟨b.kind, b.uniq, b.ix, fun y hy e => ?_, b.own⟩
  rcases b.free y hy e with h | h
  · rcases lookup_rel (E := E) h with q | ⟨q, _⟩
    · exact .inl q
    · cases q
  · rcases lookup_rel (E := E) h with q | ⟨_, q⟩
    · exact .inr q
    · exact .inl q
end
theorem xgb {k : Nat} {s : Shared} {H : Hp} {scope : Scope} {env : Env} {fp : List Addr} (G : XG k X) : XG k (X.blk s H scope env fp) := ⟨G.room, G.gd, G.calm, G.sl⟩
end
/-- x is a def of the module that keeps S, where level k is left -/
structure Callee (P : Program) (w : World) (K : PySem.W.Frag) (mg : Str → Option Value) (base : Heap) (k : Nat) (x : Str) (n : Nat) (S : Spc) : Prop where
  ex : ∃ f fd ps, FnG P w K mg base k f fd ps (spOf K n S) ∧ mg x = some (.ref f) ∧ PySem.W.keepIn K (.ref f) = true ∧ Binds K fd ps []
theorem Callee.mono {P : Program} {w : World} {K : PySem.W.Frag} {mg : Str → Option Value} {base : Heap} {j k : Nat} {x : Str} {n : Nat} {S S' : Spc} (C : Callee P w K mg base j x n S) (h : j ≤ k) (hS : ∀ xs st Q, xs.length = n → S' xs st Q → S xs st Q) : Callee P w K mg base k x n S' := by
  obtain ⟨f, fd, ps, F, a, b, c⟩ := C.ex
  exact ⟨f, fd, ps, (F.mono h).imp hS, a, b, c⟩
theorem Callee.up {P : Program} {w : World} {K : PySem.W.Frag} {mg : Str → Option Value} {base : Heap} {j k : Nat} {x : Str} {n : Nat} {S : Spc} (C : Callee P w K mg base j x n S) (h : j ≤ k := by first | decide | omega) : Callee P w K mg base k x n S := C.mono h fun _ _ _ _ h => h
section
variable {X : Cx} {k n : Nat} {S : Spc} {x : Str} {p pos : Pos} {e : Expr} {es : List Expr} {wa : WA}
theorem d_callC (C : Callee X.prog X.w X.K X.mg X.base k x n S) (hr : XG k X) (ha : DA X (e :: es) wa) (hg : Gl X x := by rfl) (hdb : (x == ("__debug__" : Str)) = false := by decide +kernel) (he : starEach (e :: es) X.env = (false, eval e X.env) :: starEach es X.env := by exact star_cons (by rfl)) (hpl : (backTo pos (starEach es X.env)).any (·.1) = false := by exact star_plain (by rfl)) :
    DE X (.Call (.Name x p) (e :: es) [] pos) (wCall n S wa) := by
  obtain ⟨f, fd, ps, F, hm, hk, hb⟩ := C.ex
  exact d_call F hr hg hm hk hb ha hdb he hpl
end
theorem law_callG {P : Program} {w : World} {K : PySem.W.Frag} {mg mb : Str → Option Value} {k : Nat} {fa a : Addr} {fd : FuncData} {x : Str} {sp : Sp} {s₁ : Shared} {vs : List Value} {ns : List Int}
    (KX : K.In s₁.heap) (hns : s₁.heap.Ns mainGlobals mg) (hb : s₁.heap.Ns builtinsNs mb) (hbb : ∀ x : Str, x ≠ "__name__" → mb x = bootBuiltins x) (hlim : s₁.heap.NoLimit) (hg : s₁.gens = #[])
    (ha : s₁.heap.get? a = some { cls := .type "list", data := .seq vs.toArray }) (hi : PyProof.Rows.IntsAre vs ns) (hl : ns.length ≤ sizeLine) (hr : Room k callerA)
    (F : ∀ base : Heap, K.In base → base.Ns mainGlobals mg → FnG P w K mg base k fa fd [x] sp) (hbind : ∀ (s : Shared) (u : Value), BindsTo s fd ⟨[u], []⟩ [(x, u)])
    (hsp : ∀ H : Hp, Only H → SqL K H a (ns.map V.int) → sp [.ref a] H (fun v _ => v = .bl true) E0) :
    codeAny (model P w) callerA (.call (.ref fa) ⟨[.ref a], []⟩) (fun r s' => r = .ok (.ret (.bool true)) ∧ OldK s₁.heap s'.heap ∧ s'.os = s₁.os ∧ PyProof.Rows.AllBare s'.gens) s₁ := by
  have rv := vals_ints hi
  have lenV := hi.length
  have core : ∀ H : Hp, Only H → SqL K H a (ns.map V.int) → HOk P w H s₁.heap → (∀ b, H b ≠ none → b = a) → (H a ≠ none → K.lookup a = none) →
      codeAny (model P w) callerA (.call (.ref fa) ⟨[.ref a], []⟩) (fun r s' => r = .ok (.ret (.bool true)) ∧ OldK s₁.heap s'.heap ∧ s'.os = s₁.os ∧ PyProof.Rows.AllBare s'.gens) s₁ := by
    intro H hO hS hok hA hK
    have base_of : ∀ {b : Addr} {o : Obj}, s₁.heap.get? b = some o → H b = none → (hidT s₁.heap H).get? b = some o := fun e n => hidT_get e n
    have noA : ∀ {b : Addr} {o : Obj} {es : Array DictEntry} {ep : Nat}, s₁.heap.get? b = some o → o.data = .dict es ep → H b = none := fun {b o es ep} e d => by
      cases q : H b with
      | none => rfl
      | some u =>
        have e' : b = a := hA b (by rw [q]; simp)
        subst e'
        rw [ha] at e; cases e
        have d' : Data.seq vs.toArray _ = Data.dict es ep := d
        cases d'
    have nsK : ∀ {b : Addr} {m : Str → Option Value}, s₁.heap.Ns b m → (hidT s₁.heap H).Ns b m := fun {b m} ⟨o, es, ep, e, d, r⟩ => ⟨o, es, ep, base_of e (noA e d), d, r⟩
    have hKb : K.In (hidT s₁.heap H) := fun b o e => base_of (KX b o e) (by
      cases q : H b with
      | none => rfl
      | some u =>
        have e' : b = a := hA b (by rw [q]; simp)
        subst e'
        rw [hK (by rw [q]; simp)] at e; cases e)
    have hM : Mod K mg (hidT s₁.heap H) := ⟨hKb, nsK hns, ⟨mb, nsK hb, hbb⟩, let ⟨mc, h1, h2⟩ := hlim; ⟨mc, nsK h1, h2⟩⟩
    have e0 : Env0 P w K mg (hidT s₁.heap H) callerA [] s₁ H := ⟨rfl, hM, fun b o e => of_hidT e, Nat.le_of_eq (hidT_size _ _), trivial, fun b hb => absurd (show b ∈ ([] : List Addr) from hb) (by simp), hok, .of_eq hg⟩
    refine codeAny_mono ((F _ hKb (nsK hns)).run callerA [] s₁ H ⟨[.ref a], []⟩ [.ref a] [.ref a] _ hr rfl e0 (hbind s₁ (.ref a)) (.cons rfl .nil) (hsp H hO hS)) fun r s' h => ?_
    cases r with
    | error e => exact False.elim h
    | ok fl =>
      cases fl with
      | next => exact False.elim h
      | brk => exact False.elim h
      | cont => exact False.elim h
      | ret u =>
        obtain ⟨v, H', os, bare, un, hok', r', q⟩ := h
        have q' : v = .bl true := q
        subst q'
        obtain rfl : u = Value.bool true := r'
        refine ⟨rfl, OldK.of_keep fun b o e => ?_, os, bare⟩
        cases q : H b with
        | none => exact un.keep b o e q (by intro z; exact absurd (show b ∈ ([] : List Addr) from z) (by simp)) (by simp)
        | some u =>
          rcases hO b with z | ⟨ob, xs, z⟩
          · rw [q] at z; cases z
          · have z2 := un.frzs b ob _ z
            obtain ⟨e1, _⟩ := hok b _ z
            obtain ⟨e2, _⟩ := hok' b _ z2
            rw [e] at e1; cases e1
            exact e2
  cases hk : K.lookup a with
  | some o =>
    have e := KX a o hk
    rw [ha] at e
    cases e
    refine core (fun _ => none) (fun _ => .inl rfl) (.inr ⟨_, vs.toArray, _, hk, rfl, rfl, rfl, by rw [List.size_toArray, lenV]; exact hl, by simpa using rv⟩) (fun b u z => by have z' : (none : Option HO) = some u := z; cases z') (fun b z => absurd rfl z) fun z => absurd rfl z
  | none =>
    refine core (fun b => if b = a then some (.frz { cls := .type "list", data := .seq vs.toArray } (.lst (ns.map V.int))) else none) (fun b => ?_) (.inl (.inr ⟨{ cls := .type "list", data := .seq vs.toArray }, if_pos rfl⟩)) (fun b u z => ?_) (fun b z => ?_) fun _ => hk
    · by_cases hb : b = a
      · exact .inr ⟨_, _, if_pos hb⟩
      · exact .inl (if_neg hb)
    · by_cases hb : b = a
      · have z' := (if_pos hb).symm.trans z
        cases z'
        subst hb
        exact ⟨ha, by rw [List.length_map]; exact hl, vs, _, rv, ha⟩
      · have z' := (if_neg hb).symm.trans z
        cases z'
    · by_cases hb : b = a
      · exact hb
      · exact absurd (if_neg hb) z
/-- what a law is asked -/
def lawS : Spc := fun xs st Q => ∃ ns : List Int, xs = [.fls (pInts ns)] ∧ ns.length ≤ 63 ∧ st = [] ∧ ∀ st', Q (.bl true) st'
theorem walk_ofG {l : PySem.W.OpenLaw} {k : Nat} {q : Program} {loose : List Str} {XP : (Str → Option Value) → Heap → Prop} {YP : World → Heap → Prop} {d : DefRec} {K : Params → PySem.W.Frag} {x : Str}
    (hn : l.most = some 63) (hdf : d.params.defaults = []) (hr : Room k callerA)
    (hY : ∀ (w : World) (h : Heap), YP w h → (K w.params).In h)
    (F : ∀ (w : World) (mg : Str → Option Value) (fa : Addr) (h : Heap), (K w.params).In h → h.Ns mainGlobals mg → mg d.name = some (.ref fa) →
      ∃ fd : FuncData, (∀ (s : Shared) (u : Value), BindsTo s fd ⟨[u], []⟩ [(x, u)]) ∧
        ∀ base : Heap, (K w.params).In base → base.Ns mainGlobals mg → FnG l.prog w (K w.params) mg base k fa fd [x] (spOf (K w.params) 1 lawS)) :
    PySem.W.WalkO q loose XP YP l.row.toRowW d [] (fun f vs => PySem.call f vs) := by
  refine Att.attach_call hn hdf fun w s₀ s₁ mg mb fa o pm cd doc a vs ns G Y ho hd hcd hmg hobj hints hlen hg => ?_
  have KX := hY w _ Y
  obtain ⟨fd, hb, hF⟩ := F w mg fa _ KX G.T.g hmg
  refine law_callG KX G.T.g G.T.b G.T.builtins G.T.nolimit hg hobj hints (Nat.le_trans hlen (by decide)) hr hF hb fun H hO hS => ?_
  refine ⟨[], [], [.fls (pInts ns)], [], fun v _ => v = .bl true, .cons (.fls ?_ (ints_reps ns)) .nil, ⟨rfl, by simp, by simp, by simp, by simp⟩, rfl, ⟨ns, rfl, hlen, rfl, fun _ => rfl⟩, fun v H' ⟨ro', y, st', _, _, r, e⟩ => ?_⟩
  · rcases hS with h | h
    · exact .inl ⟨h, by simp, by simp⟩
    · exact .inr (.inr h)
  · subst e; cases r; rfl
end Pv
namespace Pv
open PySem PySem.Spec L2
/-- a text, a number of the module -/
def IsStr (mg : Str → Option Value) (x s : Str) : Prop := ∃ u, mg x = some u ∧ RelV (.str s) u
def IsInt (mg : Str → Option Value) (x : Str) (i : Int) : Prop := ∃ u, mg x = some u ∧ RelV (.int i) u
section
variable {X : Cx} {e : Expr} {w : WE} {pos : Pos}
theorem d_gStr {x s : Str} (hm : IsStr X.mg x s) (hg : Gl X x) (hd : (x == ("__debug__" : Str)) = false := by decide +kernel) : DE X (.Name x pos) (wC (.str s)) := by
  obtain ⟨u, h, r⟩ := hm
  exact d_glob hg h r (fun _ _ _ => .str s) hd
theorem d_gInt {x : Str} {i : Int} (hm : IsInt X.mg x i) (hg : Gl X x) (hd : (x == ("__debug__" : Str)) = false := by decide +kernel) : DE X (.Name x pos) (wC (.int i)) := by
  obtain ⟨u, h, r⟩ := hm
  exact d_glob hg h r (fun _ _ _ => .int i) hd
def iaddR : OpP := fun x y st Q => ∃ i j, x = .int i ∧ y = .int j ∧ Q (.int (i + j)) st
/-- a list taken apart -/
def gUl (n : Nat) (gs : List PV → Envp → Sto → (Envp → Sto → Prop) → Prop) : WG := fun x env st Q => ∃ xs, lstP st x = some xs ∧ xs.length = n ∧ gs xs env st Q
/-- from behind -/
def revR (m : Bool) : CaP := fun xs st Q => match xs with
  | [x] => ∃ ys, lstP st x = some ys ∧ newL m ys.reverse st Q
  | _ => False
theorem rev_reps {K : PySem.W.Frag} {ro fr : List Addr} {H : Hp} : ∀ {xs : List PV} {vs : List V}, RepVs K ro fr H xs vs → RepVs K ro fr H xs.reverse vs.reverse
  | [], _, h => by cases h; exact .nil
  | x :: xs, _, h => by
    cases h with
    | cons a b => rw [List.reverse_cons, List.reverse_cons]; exact (rev_reps b).append (.cons a .nil)
end
end Pv
namespace Pv
open PySem PySem.Spec L2 PyProof.Rows
/-- the text that a row of a table has -/
def txOf (r : Int × Value) : Str := match r.2 with
  | .str x _ => x
  | _ => Str.empty
/-- a row of a text -/
def TxRow (w : World) (r : Int × Value) : Prop := ∃ x tk, r.2 = .str x tk ∧ r.1 = hashStr w x
/-- the set at a has just these texts -/
def TxSet (w : World) (h : Heap) (a : Addr) (L : List Str) : Prop :=
  ∃ ob rows eph tab, h.get? a = some ob ∧ ob.ExactSet ∧ ob.data = .set rows eph tab ∧ (∀ r ∈ rows.toList, TxRow w r) ∧ (rows.toList.map txOf).Nodup ∧ (∀ x, x ∈ L ↔ x ∈ rows.toList.map txOf) ∧
    rows.size < scanBound ∧ tab.fits rows.size = true ∧ Ris tab.place.toList ∧ (w.params.followText "set-order" = true ∨ tab.led = true)
section
variable {P : Program} {w : World} {h h' : Heap} {a : Addr} {L : List Str}
theorem TxSet.at (R : TxSet w h a L) (k : ∀ ob, h.get? a = some ob → h'.get? a = some ob) : TxSet w h' a L := by
  obtain ⟨ob, rows, eph, tab, hg, rest⟩ := R
  exact ⟨ob, rows, eph, tab, k ob hg, rest⟩
theorem TxSet.same {M : List Str} (R : TxSet w h a L) (e : ∀ x, x ∈ M ↔ x ∈ L) : TxSet w h a M := by
  obtain ⟨ob, rows, eph, tab, q1, q2, q3, q4, q5, q6, rest⟩ := R
  exact ⟨ob, rows, eph, tab, q1, q2, q3, q4, q5, fun x => (e x).trans (q6 x), rest⟩
end
section
variable {X : Cx} {e : Expr} {we : WE}
/-- sorted(set(..)), of texts of some few -/
def sortSetR (m : Bool) : CaP := fun xs st Q => ∃ (x : PV) (us B : List Str), xs = [x] ∧ lstP st x = some (pStrs us) ∧ (∀ u ∈ us, u ∈ B) ∧ B.length < 4000 ∧ ∀ ys : List Str, sortedS ys = true → ys.Nodup → (∀ x, x ∈ ys ↔ x ∈ us) → newL m (pStrs ys) st Q
end
end Pv
namespace Pv
open PySem PySem.Spec L2 PyProof.Rows PySem.W PySem.SeqAt
section
variable {prog : Program} {w : World} {A : Around} {E : Value → Shared → Prop} {s : Shared}
theorem call_tuple_lt {Q : Value → Shared → Prop} {l b : Addr} {items items2 : Array Value} {e r : Nat → Bool} (hl : s.heap.IsTuple l items) (hb : s.heap.IsTuple b items2)
    (he : ∀ j (h1 : j < items.size) (h2 : j < items2.size), EqAt A.in1 s items[j] items2[j] (e j)) (hr : ∀ j (h1 : j < items.size) (h2 : j < items2.size), e j = false → RcLt A.in1 s items[j] items2[j] (r j))
    (h : Q (.bool (firstLt e r (decide (items.size < items2.size)) (List.range (min items.size items2.size)))) s) :
    wpAny (model prog w) A (call (.builtin "tuple.__lt__") [.ref l, .ref b]) Q E s := by
  obtain ⟨⟨_, dd, _, sl⟩, hg, rfl, n, rfl⟩ := hl
  obtain ⟨⟨_, dd2, _, sl2⟩, hg2, rfl, n2, rfl⟩ := hb
  exact call_meets F.slot_tuple_lt ⟨_, hg, rfl⟩ F.entry_tuple_lt (F.args_tuple_lt_2 _ _) (tuple_ltAt l b items items2 n n2 dd dd2 sl sl2 e r) ⟨hg, hg2, he, hr, h⟩
/-- one key against another, tuples too -/
theorem oneLt_any {f : Bool} {da db : PyData} {a b : Value} {as bs : List Addr} {Q : Bool → Shared → Prop} (ra : Reads s.heap a da as) (rb : Reads s.heap b db bs) (h : alike da db = true) (hn : da ≠ .none)
    (hu : A.units + min da.depth db.depth < cLine) (hq : Q (dataLt da db) s) : wpAny (model prog w) A (oneLt' f a b) Q E s := by
  cases f with
  | false => exact oneLt_alike (fun z => nomatch z) ra rb h hn hu hq
  | true =>
    by_cases ht : ∃ xs, da = .tuple xs
    · obtain ⟨xs, rfl⟩ := ht
      cases db with
      | tuple ys =>
        have hal : alikeAll xs ys = true := by simpa [alike] using h
        cases ra with
        | @tuple l o vs n _ as₁ h1 h2 h3 h4 =>
          cases rb with
          | @tuple l' o' vs' n' _ bs₁ k1 k2 k3 k4 =>
            have n1 : vs.size = xs.length := by simpa using ReadsAll.length _ _ _ h4
            have n2 : vs'.size = ys.length := by simpa using ReadsAll.length _ _ _ k4
            rw [dataLt_tuple, ← firstLt_toks xs ys hal, ← n1, ← n2] at hq
            rw [oneLt'_eq]
            simp only [if_true]
            refine wpAny_bind (wpAny_cRoomFor (room_here hu) ?_)
            refine wpAny_bind (wpAny_callSpecialIfBound?_slot (T := "tuple") ⟨_, h1, h2⟩ F.slot_tuple_lt (call_tuple_lt (e := pairEq xs ys) (r := fun j => dataLt (xs.getD j .none) (ys.getD j .none)) ⟨_, h1, h2, _, h3⟩ ⟨_, k1, k2, _, k3⟩ (fun j j1 j2 => ?_) (fun j j1 j2 hj => ?_) ?_))
            · have := eqAt_alikeAll xs ys A.in1 s vs.toList vs'.toList _ _ h4 k4 hal (room_in hu) j (by simpa using j1) (by simpa using j2)
              simpa using this
            · have := rcLt_alikeAll xs ys A.in1 s vs.toList vs'.toList _ _ h4 k4 hal (room_in hu) j (by simpa using j1) (by simpa using j2) hj
              simpa using this
            · exact wpAny_truthy_bool hq
      | _ => exact absurd h (by simp [alike])
    · exact oneLt_alike (fun _ xs e => ht ⟨xs, e⟩) ra rb h hn hu hq
/-- which of some data are tuples with an item -/
def hasFst : PyData → Bool
  | .tuple (_ :: _) => true
  | _ => false
theorem firsts_of {M : Model} : ∀ {vs : List Value} {ds : List PyData} {Q : List (Option Value) → Shared → Prop}, EachIs (fun v d => ∃ as, Reads s.heap v d as) vs ds → (∀ fs : List (Option Value), fs.map (·.isSome) = ds.map hasFst → Q fs s) → wpAny M A (vs.mapM firstOfTuple') Q E s
  | [], _, Q, .nil, h => by rw [List.mapM_nil]; exact wpAny_pure (h [] rfl)
  | v :: vs, d :: ds, Q, .cons ⟨as, r⟩ t, h => by
    rw [List.mapM_cons]
    refine wpAny_bind ?_
    have rest : ∀ f : Option Value, f.isSome = hasFst d → wpAny M A (vs.mapM firstOfTuple' >>= fun bs => pure (f :: bs)) Q E s := fun f hf =>
      wpAny_bind (firsts_of (Q := fun bs s' => wpAny M A (pure (f :: bs)) Q E s') t fun fs hfs => wpAny_pure (h (f :: fs) (by rw [List.map_cons, List.map_cons, hf, hfs])))
    rw [kas_first_eq]
    have lk := looks_reads (M := M) r
    refine wpAny_bind (lk.here ?_)
    cases d with
    | tuple xs =>
      cases r with
      | @tuple l o us n _ as₁ h1 h2 h3 h4 =>
        rw [if_neg (by simp [dataType])]
        refine wpAny_bind (listItems_at h1 h3 (wpAny_pure (rest _ ?_)))
        have e : us[0]? = us.toList[0]? := by rw [Array.getElem?_toList]
        rw [e]
        cases q : us.toList with
        | nil => rw [q] at h4; cases h4; rfl
        | cons u ur => rw [q] at h4; cases h4; rfl
    | none => rw [if_pos (by decide)]; exact wpAny_pure (rest _ rfl)
    | bool b => rw [if_pos (by simp [dataType])]; exact wpAny_pure (rest _ rfl)
    | int b => rw [if_pos (by simp [dataType])]; exact wpAny_pure (rest _ rfl)
    | str b => rw [if_pos (by simp [dataType])]; exact wpAny_pure (rest _ rfl)
    | list b => rw [if_pos (by simp [dataType])]; exact wpAny_pure (rest _ rfl)
    | dict b => rw [if_pos (by simp [dataType])]; exact wpAny_pure (rest _ rfl)
theorem keyLt'_general (x y : Value) : keyLt' general' x y = oneLt' false x y := rfl
/-- values that read as alike data can be sorted -/
theorem sorts_data {vs : List Value} {ds : List PyData} (e : EachIs (fun v d => ∃ as, Reads s.heap v d as) vs ds) (hal : AllAlike ds) (hn : ∀ d ∈ ds, d ≠ .none) (hu : ∀ d, d ∈ ds → A.units + d.depth < cLine) : SortsAt prog w A s (dataKind s.heap ds) vs := by
  have room : ∀ {d d' : PyData}, d ∈ ds → A.units + min d.depth d'.depth < cLine := fun {d d'} hd => Nat.lt_of_le_of_lt (Nat.add_le_add_left (Nat.min_le_left _ _) _) (hu d hd)
  by_cases hall : ∀ d ∈ ds, hasFst d = true
  · refine SortsAt.data e hal (.inl fun d hd => ?_) hu
    have := hall d hd
    cases d with
    | tuple xs => cases xs with
      | nil => simp [hasFst] at this
      | cons x r => exact ⟨x, r, rfl⟩
    | _ => simp [hasFst] at this
  · have ltAny : ∀ (f : Bool) (E : Value → Shared → Prop) (x y : Value) (a b : (dataKind s.heap ds).α) {Q : Bool → Shared → Prop}, (dataKind s.heap ds).keyOf x = some a → (dataKind s.heap ds).keyOf y = some b → Q ((dataKind s.heap ds).blt a b) s → wpAny (model prog w) A (oneLt' f x y) Q E s := by
      intro f E x y a b Q ha hb hq
      obtain ⟨d, as, hd, ra, rfl⟩ := dataKind_inv ha
      obtain ⟨d', as', hd', rb, rfl⟩ := dataKind_inv hb
      exact oneLt_any ra rb (hal d hd d' hd') (hn d hd) (room hd) hq
    refine ⟨fun v hv => ?_, ?_⟩
    · obtain ⟨d, hd, as, r⟩ := e.left v hv
      exact ⟨_, dataKind_some hal hd r⟩
    · obtain ⟨d₀, h0, h0f⟩ : ∃ d ∈ ds, ¬ hasFst d = true := by
        by_cases q : ∃ d ∈ ds, ¬ hasFst d = true
        · exact q
        · exact absurd (fun d hd => by
            by_cases z : hasFst d = true
            · exact z
            · exact absurd ⟨d, hd, z⟩ q) hall
      have ty : ∀ v ∈ vs, ∀ M : Model, Looks M s.heap (typeOf v) (dataType d₀) := fun v hv M => by
        obtain ⟨d, hd, as, r⟩ := e.left v hv
        rw [← dataType_alike (hal d hd d₀ h0)]
        exact looks_reads r
      -- the kind by the first one
      have hne : ∃ d1 r1, ds = d1 :: r1 := by
        cases ds with
        | nil => cases h0
        | cons d1 r1 => exact ⟨d1, r1, rfl⟩
      obtain ⟨d1, r1, hds⟩ := hne
      have kindR : ∀ (kd : SortKind), kd = (if hasFst d1 = true then general' else oneType') → 2 ≤ vs.length → ∀ (E : Value → Shared → Prop) {Q : SortKind → Shared → Prop}, Q kd s → wpAny (model prog w) A (keyKind' vs.toArray) Q E s := by
        intro kd hkd h2 E Q hq
        rw [kat_kind_eq, List.mapM_toArray, map_eq_pure_bind]
        refine wpAny_bind (wpAny_bind (firsts_of e fun fs hfs => wpAny_pure ?_))
        have na : (fs.toArray.all fun x => x.isSome) = false := by
          rw [List.all_toArray]
          have e1 : fs.all (fun x => x.isSome) = (fs.map (·.isSome)).all id := by rw [List.all_map]; rfl
          rw [e1, hfs, List.all_map]
          cases q : ds.all (id ∘ hasFst) with
          | false => rfl
          | true => exact absurd (List.all_eq_true.mp q d₀ h0) h0f
        rw [if_neg (by rw [na]; simp)]
        have f0 : (fs.toArray[0]?.bind id).isSome = hasFst d1 := by
          rw [hds] at hfs
          cases fs with
          | nil => simp at hfs
          | cons f fr =>
            rw [List.map_cons, List.map_cons] at hfs
            have := (List.cons.inj hfs).1
            rw [← this]
            cases f <;> simp
        rw [f0]
        cases hf1 : hasFst d1 with
        | true =>
          rw [hf1, if_pos rfl] at hkd
          subst hkd
          rw [if_pos rfl]
          exact wpAny_pure hq
        | false =>
          rw [hf1, if_neg Bool.false_ne_true] at hkd
          subst hkd
          rw [if_neg Bool.false_ne_true, oneTypeOnly'_eq, List.mapM_toArray, map_eq_pure_bind]
          refine wpAny_bind (wpAny_bind (wpAny_bind (kas_mapM (r := dataType d₀) _ (fun v hv Q' hq => (ty v hv _).here hq) (wpAny_pure ?_))))
          have hall2 : ((List.map (fun _ => dataType d₀) vs).toArray.all fun x => x == dataType d₀) = true := by
            simp only [List.all_toArray, List.all_map, List.all_eq_true]
            intro _ _
            exact beq_self_eq_true _
          have h0 : (List.map (fun _ => dataType d₀) vs).toArray[0]? = some (dataType d₀) := by
            cases vs with
            | nil => simp at h2
            | cons v vs => simp
          rw [h0]
          simp only [hall2, if_true]
          exact wpAny_pure (wpAny_pure hq)
      refine ⟨if hasFst d1 = true then general' else oneType', ?_, kindR _ rfl⟩
      intro E x y a b Q ha hb hq
      split
      · rw [keyLt'_general]; exact ltAny _ E x y a b ha hb hq
      · rw [keyLt'_oneType]; exact ltAny _ E x y a b ha hb hq
end
end Pv
namespace Pv
open PySem PySem.Spec L2 PyProof.Rows PySem.W PySem.SeqAt
/-- a value's place among alike ones -/
def leP (a b : PV) : Bool := !dataLt (dat b) (dat a)
def sortP (ys : List PV) : List PV := ys.mergeSort leP
def AlikeP (ys : List PV) : Prop := ∀ x ∈ ys, ∀ y ∈ ys, alike (dat x) (dat y) = true
section
variable {X : Cx}
def RvV (K : PySem.W.Frag) (ro fr : List Addr) (H : Hp) (u : Value) (y : PV) : Prop := ∃ v, RelV v u ∧ RepV K ro fr H y v
theorem each_of {K : PySem.W.Frag} {ro fr : List Addr} {H : Hp} : ∀ {ys : List PV} {vs : List V} {us : List Value}, RepVs K ro fr H ys vs → Vals vs us → EachIs (RvV K ro fr H) us ys
  | [], _, _, .nil, .nil => .nil
  | y :: ys, _, _, .cons a b, .cons c d => .cons ⟨_, c, a⟩ (each_of b d)
theorem of_each {K : PySem.W.Frag} {ro fr : List Addr} {H : Hp} : ∀ {ys : List PV} {us : List Value}, EachIs (RvV K ro fr H) us ys → ∃ vs, Vals vs us ∧ RepVs K ro fr H ys vs
  | _, _, .nil => ⟨[], .nil, .nil⟩
  | _, _, .cons ⟨v, a, b⟩ t => by
    obtain ⟨vs, c, d⟩ := of_each t
    exact ⟨v :: vs, .cons a c, .cons b d⟩
theorem isDs_mem : ∀ {xs : List PV} {x : PV}, isDs xs = true → x ∈ xs → isD x = true
  | y :: ys, x, h, m => by
    simp only [isDs, Bool.and_eq_true] at h
    rcases List.mem_cons.mp m with e | m
    · subst e; exact h.1
    · exact isDs_mem h.2 m
theorem collect_tuple {l : Addr} {vs : List Value} {Q : List Value → Shared → Prop} (hl : s.heap.IsTuple l vs.toArray)
    (h : Q vs { s with heap := (s.heap.push (seqObj "list" #[] 0)).update s.heap.objs.size (Obj.mapSeq (· ++ vs.toArray)) }) (hsz : vs.length ≤ sizeLine) :
    wpAny (model prog w) A (collect (.ref l)) Q E s := by
  obtain ⟨o, ho, hc, n, hd⟩ := id hl
  unfold collect
  refine wpAny_bind (wpAny_runValue (codeAny_builtin entry_proto_collect' ?_))
  show wpAny _ _ (do again (.builtin "list.__iadd__" ⟨[← newList [], .ref l], []⟩)) _ _ s
  refine wpAny_bind (wpAny_newList (wpAny_pure ⟨Code.quiet_builtin _ (by decide +kernel), codeAny_builtin entry_list_iadd' ?_⟩))
  show wpAny _ _ (Builtin.List.listExtendWith (.ref s.heap.objs.size) (.ref l) (.ref s.heap.objs.size)) _ _ { s with heap := s.heap.push (seqObj "list" #[] 0) }
  unfold Builtin.List.listExtendWith
  have ho' : (s.heap.push (seqObj "list" #[] 0)).get? l = some o := Heap.get?_push_of_some _ ho
  refine wpAny_bind (wpAny_typeOf (T := "tuple") ⟨o, ho', hc⟩ ?_)
  have ht : (Value.type "tuple" == Value.type "tuple") = true := by rfl
  rw [if_pos (by rw [ht]; simp)]
  refine wpAny_bind (listItems_at ho' hd ?_)
  refine wpAny_bind (listItems_at (xs := #[]) (n := 0) (Heap.get?_push_size _ rfl) rfl ?_)
  rw [if_neg (by simp)]
  refine wpAny_bind (listUpdate_at (xs := #[]) (n := 0) (Heap.get?_push_size _ rfl) rfl ?_ (Nat.zero_le _) (by show (#[] ++ vs.toArray).size ≤ sizeLine + 1; simp only [Array.size_append, List.size_toArray, List.length_nil]; omega))
  refine wpAny_pure ?_
  show wpAny (model prog w) A (do
      let o ← load s.heap.objs.size
      match o.data with
      | .seq xs _ => pure xs.toList
      | _ => unsupported "internal:collect") Q E { s with heap := (s.heap.push (seqObj "list" #[] 0)).update s.heap.objs.size (Obj.mapSeq (· ++ vs.toArray)) }
  refine wpAny_bind (wpAny_load (get?_update_seq (Heap.get?_push_size _ rfl) _) ?_)
  show wpAny _ _ (pure ((#[] : Array Value) ++ vs.toArray).toList) Q E _
  rw [show ((#[] : Array Value) ++ vs.toArray).toList = vs by simp]
  exact wpAny_pure h
theorem sorted_valsT {κ : PyProof.Rows.KeyKind} {l : Addr} {vs : List Value} {Q : Value → Shared → Prop} (hl : s.heap.IsTuple l vs.toArray) (S : SortsAt prog w A.in1.in1 { s with heap := sortingHeap (copyHeap s.heap vs) (s.heap.objs.size + 1) vs } κ vs) (hL : vs.length ≤ sizeLine)
    (h : Q (.ref (s.heap.objs.size + 1)) { s with heap := sortedAll s.heap vs (sortVals κ false vs vs).toArray }) : wpAny (model prog w) A (call (.builtin "sorted") [.ref l]) Q E s := by
  refine call_function_entry_kw kind_sorted plain_sorted entry_sorted (args_sorted1 _) ?_
  unfold Builtin.«sorted»
  refine wpAny_bind (m := checkCount "sorted" 1 1 _) (wpAny_pure ?_)
  refine wpAny_bind (collect_tuple hl ?_ hL)
  refine wpAny_bind (wpAny_newList ?_ hL)
  have hsz : ((s.heap.push (seqObj "list" #[] 0)).update s.heap.objs.size (Obj.mapSeq (· ++ vs.toArray))).objs.size = s.heap.objs.size + 1 := by
    rw [Heap.size_update, size_push']
  show wpAny _ _ _ _ _ { s with heap := copyHeap s.heap vs }
  rw [hsz]
  refine wpAny_bind (wpAny_holding (wpAny_call_entry_kw slot_list_sort ⟨_, copyHeap_at s.heap vs, rfl⟩ entry_list_sort ?body (args_list_sort _)))
  case body =>
    refine list_sort_vals (s := { s with heap := copyHeap s.heap vs }) (copyHeap_at s.heap vs) S hL ?_
    exact ⟨_, rfl, wpAny_pure ⟨_, rfl, h⟩⟩
def rSortP (K : PySem.W.Frag) : List V → Hp → VK → Prop := fun vs H Q => ∃ (ro fr : List Addr) (a : Addr) (us : List V) (ys : List PV), vs = [V.ref a] ∧ (SqL K H a us ∨ SqT K H a us) ∧ RepVs K ro fr H ys us ∧ isDs ys = true ∧ AlikeP ys ∧ (∀ y ∈ ys, y ≠ .non ∧ (dat y).depth ≤ 60) ∧
  ∀ ws p, RepVs K ro fr H (sortP ys) ws → H p = none → Q (.ref p) (upd H p (.lst ws))
theorem cr_sortP (hu : X.A.units + 66 < cLine) : CallR X (.builtin "sorted") (rSortP X.K) := by
  intro pins s σ H vs us0 Q I r h
  obtain ⟨ro, fr, a, us, ys, rfl, hs, rp, hD, hal, hn, q⟩ := h
  obtain ⟨its, rv, hl, hz⟩ : ∃ its : List Value, Vals us its ∧ (s.heap.IsList a its.toArray ∨ s.heap.IsTuple a its.toArray) ∧ us.length ≤ sizeLine := by
    rcases hs with hs | hs
    · obtain ⟨its, q1, q2, q3⟩ := I.list hs
      exact ⟨its, q1, .inl q2.isList, q3⟩
    · obtain ⟨its, q1, q2, q3⟩ := I.tuple hs
      exact ⟨its, q1, .inr q2, q3⟩
  rw [Vals.ref1 r]
  have hlen := rv.length
  have E0 := each_of rp rv
  have rdS : ∀ u y, RvV X.K ro fr H u y → y ∈ ys → ∃ as, Reads s.heap u (dat y) as := fun u y ⟨v, r1, r2⟩ m => Dp.reads I _ v u (dp_of y v r2 (isDs_mem hD m)) r1
  have eR : ∀ {h' : Heap}, (∀ b o, s.heap.get? b = some o → h'.get? b = some o) → EachIs (fun u d => ∃ as, Reads h' u d as) its (ys.map dat) := fun {h'} k => by
    have key : ∀ {us : List Value} {zs : List PV}, (∀ z ∈ zs, z ∈ ys) → EachIs (RvV X.K ro fr H) us zs → EachIs (fun u d => ∃ as, Reads h' u d as) us (zs.map dat) := by
      intro us zs hz e
      induction e with
      | nil => exact .nil
      | cons a t ih =>
        rw [List.map_cons]
        obtain ⟨as, rd⟩ := rdS _ _ a (hz _ List.mem_cons_self)
        exact .cons ⟨as, PyProof.Rows.Reads.keeps k rd⟩ (ih fun z m => hz z (List.mem_cons_of_mem _ m))
    exact key (fun _ m => m) E0
  have hal' : AllAlike (ys.map dat) := fun d hd d' hd' => by
    obtain ⟨x, mx, rfl⟩ := List.mem_map.mp hd
    obtain ⟨y, my, rfl⟩ := List.mem_map.mp hd'
    exact hal x mx y my
  have hnn : ∀ d ∈ ys.map dat, d ≠ .none := fun d hd => by
    obtain ⟨x, mx, rfl⟩ := List.mem_map.mp hd
    have h1 := (hn x mx).1
    have h2 := isDs_mem hD mx
    cases x with
    | non => exact absurd rfl h1
    | dk _ _ => simp only [isD] at h2; cases h2
    | ptp _ => simp only [isD] at h2; cases h2
    | fn _ => simp only [isD] at h2; cases h2
    | ins _ _ _ => simp only [isD] at h2; cases h2
    | ref _ => simp only [isD] at h2; cases h2
    | _ => simp [dat]
  have hdp : ∀ d ∈ ys.map dat, X.A.in1.in1.units + d.depth < cLine := fun d hd => by
    obtain ⟨x, mx, rfl⟩ := List.mem_map.mp hd
    have := (hn x mx).2
    have e1 : X.A.in1.in1.units = X.A.units + 2 := rfl
    omega
  have keep : ∀ b o, s.heap.get? b = some o → (sortingHeap (copyHeap s.heap its) (s.heap.objs.size + 1) its).get? b = some o := fun b o => sorting_copy_old
  have S : SortsAt X.prog X.w X.A.in1.in1 { s with heap := sortingHeap (copyHeap s.heap its) (s.heap.objs.size + 1) its } (dataKind (sortingHeap (copyHeap s.heap its) (s.heap.objs.size + 1) its) (ys.map dat)) its :=
    sorts_data (s := { s with heap := sortingHeap (copyHeap s.heap its) (s.heap.objs.size + 1) its }) (eR keep) hal' hnn hdp
  have fin : ∀ {Q : Value → Shared → Prop}, Q (.ref (s.heap.objs.size + 1)) { s with heap := sortedAll s.heap its (sortVals (dataKind (sortingHeap (copyHeap s.heap its) (s.heap.objs.size + 1) its) (ys.map dat)) false its its).toArray } → wpAny (model X.prog X.w) X.A (call (.builtin "sorted") [.ref a]) Q X.xe s := fun q => by
    rcases hl with hl | hl
    · exact sorted_vals hl S (by rw [← hlen]; exact hz) q
    · exact sorted_valsT hl S (by rw [← hlen]; exact hz) q
  refine fin ?_
  have eK : EachIs (fun v (b : PV) => (dataKind (sortingHeap (copyHeap s.heap its) (s.heap.objs.size + 1) its) (ys.map dat)).keyOf v = some (keyToks (dat b))) its ys := by
    have key : ∀ {us : List Value} {zs : List PV}, (∀ z ∈ zs, z ∈ ys) → EachIs (RvV X.K ro fr H) us zs → EachIs (fun v (b : PV) => (dataKind (sortingHeap (copyHeap s.heap its) (s.heap.objs.size + 1) its) (ys.map dat)).keyOf v = some (keyToks (dat b))) us zs := by
      intro us zs hz e
      induction e with
      | nil => exact .nil
      | cons a t ih =>
        obtain ⟨as, rd⟩ := rdS _ _ a (hz _ List.mem_cons_self)
        exact .cons (dataKind_some hal' (List.mem_map_of_mem (hz _ List.mem_cons_self)) (PyProof.Rows.Reads.keeps keep rd)) (ih fun z m => hz z (List.mem_cons_of_mem _ m))
    exact key (fun _ m => m) E0
  have out := sortVals_each (κ := dataKind (sortingHeap (copyHeap s.heap its) (s.heap.objs.size + 1) its) (ys.map dat)) (rev := false) (fun y : PV => keyToks (dat y)) E0 eK
  obtain ⟨ws, r1, r2⟩ := of_each out
  have e1 : ys.mergeSort (sortLe (dataKind (sortingHeap (copyHeap s.heap its) (s.heap.objs.size + 1) its) (ys.map dat)).toKeyOrd false fun y : PV => keyToks (dat y)) = sortP ys := rfl
  rw [e1] at r2
  obtain ⟨ep, he'⟩ := PyProof.Rows.sortedAll_at s.heap its (sortVals (dataKind (sortingHeap (copyHeap s.heap its) (s.heap.objs.size + 1) its) (ys.map dat)) false its its).toArray
  have hlen2 : ws.length ≤ sizeLine := by
    rw [r1.length, sortVals_length _ rfl, ← hlen]
    exact hz
  exact ⟨.ref _, upd H (s.heap.objs.size + 1) (.lst ws), I.laid (t' := s.toks) (fun _ _ => PyProof.Rows.sortedAll_old) (Nat.le_succ _) ⟨hlen2, _, ep, r1, he'⟩, rfl, q ws _ r2 (I.hok.fresh (Nat.le_succ _))⟩
def sortR (m : Bool) : CaP := fun xs st Q => ∃ (x : PV) (ys : List PV), xs = [x] ∧ seqP st x = some ys ∧ isDs ys = true ∧ AlikeP ys ∧ (∀ y ∈ ys, y ≠ .non ∧ (dat y).depth ≤ 60) ∧ newL m (sortP ys) st Q
theorem dca_sort {k : Nat} (m : Bool) (G : XG k X) : DCa X (.builtin "sorted") (sortR m) := by
  refine ⟨?_⟩
  rintro ro fr H st xs vs Q S r ⟨x, ys, rfl, hy, hD, hal, hn, q⟩
  obtain ⟨v, rfl, r1⟩ := one_rep r
  obtain ⟨a, us, rfl, hs, rs⟩ := seqP_at S r1 hy
  exact toC (cr_sortP (by have := G.room.un; omega)) ⟨ro, fr, a, us, ys, rfl, hs, rs, hD, hal, hn, fun ws p rw hp => new_lst m S rw hp q⟩
end
end Pv
namespace Pv
open PySem PySem.Spec L2
def lcGo2 (gd : Sto → Prop) (g : WG) (tt : WT) (wi1 : WI) (g1 : WG) (tt1 : WT) (te : WE) (vs1 : List Nat) (env : Envp) : List PV → List PV → Sto → (List PV → Sto → Prop) → Prop
  | [], acc, st, k => gd st ∧ k acc st
  | x :: xs, acc, st, k => gd st ∧ g x env st fun env2 st2 => tt env2 st2 fun b st3 => if b = true then wi1 env2 st3 fun p st4 => lcGo p.guard g1 tt1 te (wipeP env2 vs1) p.items acc st4 fun acc' st5 => lcGo2 gd g tt wi1 g1 tt1 te vs1 env xs acc' st5 k
      else lcGo2 gd g tt wi1 g1 tt1 te vs1 env xs acc st3 k
def wLc2 (m : Bool) (wi : WI) (g : WG) (tt : WT) (wi1 : WI) (g1 : WG) (tt1 : WT) (te : WE) (vs vs1 : List Nat) : WE := fun env st Q => wi env st fun p st1 => lcGo2 p.guard g tt wi1 g1 tt1 te vs1 (wipeP env vs) p.items [] st1 fun acc st2 => newL m acc st2 Q
end Pv
namespace Pv
open PySem PySem.Spec L2 PyProof.Rows PpSet
def ssGo (gd : Sto → Prop) (g : WG) (tt : WT) (te : WE) (env : Envp) : List PV → List Str → Sto → (List Str → Sto → Prop) → Prop
  | [], acc, st, k => gd st ∧ k acc st
  | x :: xs, acc, st, k => gd st ∧ g x env st fun env2 st2 => tt env2 st2 fun b st3 => if b = true then te env2 st3 fun y st4 => ∃ u, y = .str u ∧ acc.length < 4000 ∧ ssGo gd g tt te env xs (acc ++ [u]) st4 k else ssGo gd g tt te env xs acc st3 k
/-- sorted({text for ..}) -/
def wSs (m : Bool) (wi : WI) (g : WG) (tt : WT) (te : WE) (vs : List Nat) : WE := fun env st Q => wi env st fun p st1 => ssGo p.guard g tt te (wipeP env vs) p.items [] st1 fun us st2 =>
  ∃ B : List Str, (∀ u ∈ us, u ∈ B) ∧ B.length < 4000 ∧ ∀ ys : List Str, sortedS ys = true → ys.Nodup → (∀ x, x ∈ ys ↔ x ∈ us) → newL m (pStrs ys) st2 Q
end Pv
namespace Pv
open PySem PySem.Spec L2
section
variable {X : Cx}
def rInT (K : PySem.W.Frag) (neg : Bool) : R2 := fun x y H Q => ∃ d ds, Dp K H x d ∧ Dp K H y (.tuple ds) ∧ SeqAt.shaped d = true ∧ SeqAt.shaped (.tuple ds) = true ∧ Q (.bl (if neg then !(ds.any fun z => PyData.eqv z d) else ds.any fun z => PyData.eqv z d)) H
theorem op_inT (hu : X.A.units + 66 < cLine) : OpR X (compareOp .In) (rInT X.K false) := by
  intro pins s σ H x y v u Q I rx ry ⟨d, ds, hd, he, sd, se, q⟩
  obtain ⟨as, r1⟩ := Dp.reads I d x v hd rx
  obtain ⟨bs, r2⟩ := Dp.reads I (.tuple ds) y u he ry
  have c1 : PyData.canLay0 (.tuple ds) = true := by unfold SeqAt.shaped at se; simp only [Bool.and_eq_true] at se; exact se.1
  have c2 : d.canLay0 = true ∧ d.depth ≤ 64 := by unfold SeqAt.shaped at sd; simp only [Bool.and_eq_true, decide_eq_true_eq] at sd; exact sd
  exact SeqAt.in_tuple_reads r2 r1 (by simpa only [PyData.canLay0] using c1) c2.1 (by have := Nat.min_le_right (PyData.depthAll ds) d.depth; omega) ⟨.bl _, H, I, rfl, q⟩
end
def inTR (neg : Bool) : OpP := fun x y st Q => ∃ d ds, datS st x = some d ∧ datS st y = some (.tuple ds) ∧ SeqAt.shaped d = true ∧ SeqAt.shaped (.tuple ds) = true ∧ Q (.bl (if neg then !(ds.any fun z => PyData.eqv z d) else ds.any fun z => PyData.eqv z d)) st
def notInSR : OpP := fun x y st Q => ∃ (c : Nat) (z : Str), x = .str ⟨#[c]⟩ ∧ y = .str z ∧ Q (.bl (!decide (c ∈ z.cps.toList))) st
def inA : OpP := fun x y st Q => match y with
  | .tup _ => inTR false x y st Q
  | .str _ => inSR x y st Q
  | _ => inR x y st Q
def notInA : OpP := fun x y st Q => match y with
  | .tup _ => inTR true x y st Q
  | .str _ => notInSR x y st Q
  | _ => notInR x y st Q
section
variable {X : Cx}
theorem dop_inA {k : Nat} (G : XG k X) : DOp X (compareOp .In) inA := by
  refine ⟨?_⟩
  intro ro fr H st x y v u Q S rx ry h
  unfold inA at h
  split at h
  · obtain ⟨d, ds, hd, he, sd, se, q⟩ := h
    exact toRW (op_inT (by have := G.room.un; omega)) ⟨d, ds, datS_at S rx hd, datS_at S ry he, sd, se, ro, _, st, .refl, S, .bl _, q⟩
  · exact dop_inS _ _ _ _ _ _ _ _ _ S rx ry h
  · exact dop_in G _ _ _ _ _ _ _ _ _ S rx ry h
end
end Pv
namespace Pv
open PySem PySem.Spec L2 PyProof.Rows HT
section
variable {prog : Program} {w : World} {A : Around} {E : Value → Shared → Prop} {s : Shared}
theorem back_adjust (n : Nat) : Builtin.Slice.sliceAdjust none none (-1) (n : Int) = ((n : Int) - 1, -1) := by
  unfold Builtin.Slice.sliceAdjust
  simp
theorem back_places (n : Nat) : Builtin.Slice.slicePlaces ((n : Int) - 1) (-1) (-1) = n := by
  unfold Builtin.Slice.slicePlaces
  simp
  try omega
theorem back_applied {sl : Addr} {vl vu vs : Value} {n : Nat} {Q : Int × Int × Nat → Shared → Prop} (hs : s.heap.IsSliceOf sl vl vu vs) (pl : IsPart vl none) (pu : IsPart vu none) (ps : IsPart vs (some (-1)))
    (q : Q ((n : Int) - 1, -1, n) s) : wpAny (model prog w) A (Builtin.Slice.sliceApplied (.ref sl) (pure (n : Int))) Q E s := by
  obtain ⟨so, hso, _, hsd⟩ := id hs
  unfold Builtin.Slice.sliceApplied Builtin.Slice.sliceFields
  refine wpAny_bind (wpAny_bind (wpAny_field hso hsd (x := vl) rfl (wpAny_bind (wpAny_field hso hsd (x := vu) rfl (wpAny_bind (wpAny_field hso hsd (x := vs) rfl (wpAny_pure ?_)))))))
  refine wpAny_bind (slicePart_ ps ?_)
  show wpAny _ _ (if ((-1 : Int) == 0) = true then _ else _) _ _ s
  rw [if_neg (by decide)]
  refine wpAny_bind (slicePart_ pl (wpAny_bind (slicePart_ pu (wpAny_bind (wpAny_pure ?_)))))
  show wpAny _ _ (match Builtin.Slice.sliceAdjust none none (-1) (n : Int) with | (lo, hi) => pure (lo, (-1 : Int), Builtin.Slice.slicePlaces lo hi (-1))) _ _ s
  rw [back_adjust]
  show wpAny _ _ (pure ((n : Int) - 1, (-1 : Int), Builtin.Slice.slicePlaces ((n : Int) - 1) (-1) (-1))) _ _ s
  rw [back_places]
  exact wpAny_pure q
theorem back_pick (xs : Array Value) : ((List.range xs.size).filterMap fun (m : Nat) => xs[((xs.size : Int) - 1 + (m : Int) * (-1)).toNat]?).toArray = xs.toList.reverse.toArray := by
  congr 1
  have key : ∀ l : List Value, (List.range l.length).filterMap (fun (m : Nat) => l[((l.length : Int) - 1 + (m : Int) * (-1)).toNat]?) = l.reverse := by
    intro l
    refine List.ext_getElem? fun i => ?_
    have e1 : (List.range l.length).filterMap (fun (m : Nat) => l[((l.length : Int) - 1 + (m : Int) * (-1)).toNat]?) = (List.range l.length).map (fun m => l.getD (l.length - 1 - m) .none) := by
      rw [← List.filterMap_eq_map]
      have go : ∀ ms : List Nat, (∀ m ∈ ms, m < l.length) → ms.filterMap (fun (m : Nat) => l[((l.length : Int) - 1 + (m : Int) * (-1)).toNat]?) = ms.filterMap (some ∘ fun m => l.getD (l.length - 1 - m) .none) := by
        intro ms
        induction ms with
        | nil => intro _; rfl
        | cons m ms ih =>
          intro h
          have ht := ih fun x mx => h x (List.mem_cons_of_mem _ mx)
          have hm := h m List.mem_cons_self
          have e2 : ((l.length : Int) - 1 + (m : Int) * (-1)).toNat = l.length - 1 - m := by omega
          have h3 : l.length - 1 - m < l.length := by omega
          simp only [List.filterMap_cons, e2, List.getElem?_eq_getElem h3, Function.comp, List.getD_eq_getElem?_getD, Option.getD_some, ht]
      exact go _ fun m mm => List.mem_range.mp mm
    rw [e1]
    by_cases hi : i < l.length
    · rw [List.getElem?_map, List.getElem?_range hi, List.getElem?_reverse hi]
      have h3 : l.length - 1 - i < l.length := by omega
      simp [List.getElem?_eq_getElem h3, List.getD_eq_getElem?_getD]
    · rw [List.getElem?_eq_none (by simpa using hi), List.getElem?_eq_none (by simpa using hi)]
  have := key xs.toList
  simpa using this
theorem getItem_back {t sl : Addr} {items : Array Value} {vl vu vs : Value} {Q : Value → Shared → Prop} (ht : IsTup s.heap t items) (hs : s.heap.IsSliceOf sl vl vu vs) (pl : IsPart vl none) (pu : IsPart vu none) (ps : IsPart vs (some (-1)))
    (q : Q (.ref s.heap.objs.size) { s with heap := s.heap.push { cls := .type "tuple", data := .seq items.toList.reverse.toArray } }) (hz : items.size ≤ sizeLine) : wpAny (model prog w) A (getItem (.ref t) (.ref sl)) Q E s := by
  have room : sizeOk (.seq items.toList.reverse.toArray) := by
    show items.toList.reverse.toArray.size ≤ sizeLine
    simpa using hz
  obtain ⟨so, hso, hsc, hsd⟩ := id hs
  have tyS : s.TypeIs (.ref sl) "slice" := ⟨so, hso, hsc⟩
  unfold getItem
  (try with_reducible refine wpAny_holding ?_)
  (first | refine wpAny_bind (wpAny_pure ?_) | skip)
  refine wpAny_bind (wpAny_sequenceKey ht.typeIs (by decide) ?_)
  refine wpAny_bind (wpAny_callSpecial?_slot (name := Str.ofString "__getitem__") ht.typeIs PyProof.Rows.slot_tuple_getitem (wpAny_call_entry PyProof.Rows.slot_tuple_getitem ht.typeIs entry_tuple_getitem ?body (args_tuple_getitem _ _)))
  case body =>
    show wpAny _ _ (Builtin.Tuple.tupleItemsOf (.ref t) >>= _) _ _ s
    refine wpAny_bind (tupleItemsOf_ ht (wpAny_bind (wpAny_typeOf tyS ?_)))
    rw [if_pos (by decide)]
    refine wpAny_bind (back_applied hs pl pu ps ?_)
    have no : ¬ (((items.size : Int) - 1 == 0 && (-1 : Int) == 1 && items.size == items.size) = true) := by simp
    show wpAny _ _ (if ((items.size : Int) - 1 == 0 && (-1 : Int) == 1 && items.size == items.size) = true then _ else _) _ _ s
    rw [if_neg no, back_pick]
    first
      | exact wpAny_bind (m := Builtin.Tuple.tupleExact _) (wpAny_newObj_type (wpAny_pure ⟨_, rfl, wpAny_pure q⟩) room)
      | exact wpAny_bind (m := Builtin.Tuple.tupleExact _) (wpAny_newObj_type (wpAny_bind (wpAny_pure (wpAny_pure ⟨_, rfl, wpAny_pure q⟩))) room)
      | exact wpAny_bind (wpAny_bind (m := Builtin.Tuple.tupleExact _) (wpAny_newObj_type (wpAny_pure (wpAny_pure ⟨_, rfl, wpAny_pure q⟩)) room))
      | exact wpAny_bind (wpAny_bind (m := Builtin.Tuple.tupleExact _) (wpAny_newObj_type (wpAny_pure ⟨_, rfl, wpAny_pure q⟩) room))
end
/-- xs[::-1], a list's or a tuple's -/
def tRevA (K : PySem.W.Frag) (te : TE) : TE := fun σ H Q => te σ H fun x H1 => ∃ a xs, x = .ref a ∧ ((SqL K H1 a xs ∧ ∀ p, H1 p = none → Q (.ref p) (upd H1 p (.lst xs.reverse))) ∨ (SqT K H1 a xs ∧ ∀ p, H1 p = none → Q (.ref p) (upd H1 p (.tup xs.reverse))))
section
variable {X : Cx} {e : Expr} {w : WE} {pos : Pos}
theorem pe_revA {e : Expr} {te : TE} {k : Nat} {p1 p2 p3 pos : Pos} (he : PE X e te) : PE X (.Subscript e (.Slice none none (some (.UnaryOp .USub (.Constant (.int 1) k p1) p2)) p3) pos) (tRevA X.K te) := by
  refine ⟨fun pins s σ H Q I h => ?_⟩
  refine Subscript_ (thn (he.run pins s σ H _ I h) fun v sA ⟨x, HA, IA, rA, a, xs, ex, q⟩ => ?_)
  subst ex
  cases rA
  have step : PO X (some (.UnaryOp .USub (.Constant (.int 1) k p1) p2)) (tPart (tUn (rU fun i => .int (-i)) (tC (.int 1)))) := po_some (pe_un un_neg pe_int)
  refine wpAny_Slice (thn (po_none.run pins sA σ HA (fun o G => o = none ∧ G = HA) IA ⟨rfl, rfl⟩) fun vl sB ⟨l, HB, IB, pl, el, eB⟩ => ?_)
  subst el eB
  refine thn (po_none.run pins sB σ HB (fun o G => o = none ∧ G = HB) IB ⟨rfl, rfl⟩) fun vu sC ⟨u, HC, IC, pu, eu, eC⟩ => ?_
  subst eu eC
  refine thn (step.run pins sC σ HC (fun o G => o = some (-1) ∧ G = HC) IC ⟨1, rfl, -1, rfl, rfl, rfl⟩) fun vs sD ⟨o, HD, ID, pst, eo, eD⟩ => ?_
  subst eo eD
  have IE : Inv X pins σ HD { sD with heap := sD.heap.push { cls := .type "slice", data := .fields #[vl, vu, vs] } } := ID.kept (t' := sD.toks) fun b ob q => Heap.get?_push_of_some _ q
  show wpAny (model X.prog X.w) X.A (subscriptTail e (.Slice none none (some (.UnaryOp .USub (.Constant (.int 1) k p1) p2)) p3) (.ref a) (.ref sD.heap.objs.size)) (EP X pins σ Q) X.xe { sD with heap := sD.heap.push { cls := .type "slice", data := .fields #[vl, vu, vs] } }
  rcases q with ⟨hx, q⟩ | ⟨hx, q⟩
  · obtain ⟨its, r, ht, hz⟩ := IE.list hx
    have hlen := r.length
    refine tail_any (ops := [.ref a, .ref sD.heap.objs.size]) ht.isList.typeIs (PySem.slot_list_getitem.lookup) ?_ (by with_unfolding_all rfl)
    refine wpAny_getItem_list_slice ht.isList (Heap.IsSliceOf.new _ vl vu vs) pl pu pst (by decide) ?_ (by rw [List.size_toArray]; omega)
    rw [PySem.W.krv_pick]
    exact ⟨.ref _, _, IE.laid (t' := sD.toks) (o := .lst xs.reverse) (fun b ob q => Heap.get?_push_of_some _ q) (Nat.le_refl _) ⟨by rw [List.length_reverse]; exact hz, _, 0, r.reverse, Heap.get?_push_size _ rfl⟩, rfl, q _ (IE.hok.fresh (Nat.le_refl _))⟩
  · obtain ⟨its, r, ht, hz⟩ := IE.tuple hx
    have hlen := r.length
    refine tail_any (ops := [.ref a, .ref sD.heap.objs.size]) ht.typeIs (PyProof.Rows.slot_tuple_getitem.lookup) ?_ (by with_unfolding_all rfl)
    refine getItem_back ht (Heap.IsSliceOf.new _ vl vu vs) pl pu pst ?_ (by rw [List.size_toArray]; omega)
    exact ⟨.ref _, _, IE.laid (t' := sD.toks) (o := .tup xs.reverse) (fun b ob q => Heap.get?_push_of_some _ q) (Nat.le_refl _) ⟨by rw [List.length_reverse]; exact hz, _, r.reverse, IsTup.new _ _⟩, rfl, q _ (IE.hok.fresh (Nat.le_refl _))⟩
end
def revA (m : Bool) : CaP := fun xs st Q => match xs with
  | [.tup ys] => Q (.tup ys.reverse) st
  | xs => revR m xs st Q
theorem revA_lst {m : Bool} {x : PV} {ys : List PV} {st : Sto} {Q : PV → Sto → Prop} (h : lstP st x = some ys) (q : newL m ys.reverse st Q) : revA m [x] st Q := by
  cases x with
  | tup _ => cases h
  | _ => exact ⟨ys, h, q⟩
section
variable {X : Cx} {e : Expr} {w : WE} {pos : Pos}
theorem d_revA (m : Bool) {k : Nat} {p1 p2 p3 : Pos} (he : DE X e w) : DE X (.Subscript e (.Slice none none (some (.UnaryOp .USub (.Constant (.int 1) k p1) p2)) p3) pos) (wCa (revA m) (wCons w wNil)) := by
  refine ⟨?_⟩
  intro ro fr σ H env st Q E S hw
  refine toW (pe_revA (pe_W X e)) ?_
  refine tW.mono (he _ _ _ _ _ _ _ E S hw) fun v H1 ⟨ro1, x, st1, e1, S1, r1, q⟩ => ?_
  have gen : revR m [x] st1 Q → ∃ a xs, v = .ref a ∧ ((SqL X.K H1 a xs ∧ ∀ p, H1 p = none → Post X.K ro fr H Q (.ref p) (upd H1 p (.lst xs.reverse))) ∨ (SqT X.K H1 a xs ∧ ∀ p, H1 p = none → Post X.K ro fr H Q (.ref p) (upd H1 p (.tup xs.reverse)))) := fun ⟨ys, hy, q⟩ => by
    obtain ⟨a, vs, rfl, hs, rs⟩ := lstP_at S1 r1 hy
    exact ⟨a, vs, rfl, .inl ⟨hs, fun p hp => (new_lst m S1 (rev_reps rs) hp q).ext e1⟩⟩
  cases x with
  | tup ys =>
    cases r1 with
    | tup h1 h2 => exact ⟨_, _, rfl, .inr ⟨h1.sq, fun p hp => (new_tup S1 (rev_reps h2) hp q).ext e1⟩⟩
  | _ => exact gen q
end
end Pv
namespace Pv
open PySem PySem.Spec L2
section
variable {X : Cx}
def countR : MtP := fun x xs st Q => ∃ a b, x = .str a ∧ xs = [.str b] ∧ Q (.int (Txt.count a b)) st
end
/-- a text within another one -/
def Inn (y x : Str) : Prop := ∃ a b : Str, x = a ++ y ++ b
theorem Inn.refl (y : Str) : Inn y y := ⟨⟨#[]⟩, ⟨#[]⟩, by obtain ⟨y⟩ := y; show Str.mk y = Str.mk ((#[] ++ y) ++ #[]); simp⟩
theorem Inn.trans {x y z : Str} (h : Inn x y) (g : Inn y z) : Inn x z := by
  obtain ⟨a, b, rfl⟩ := h
  obtain ⟨c, d, rfl⟩ := g
  obtain ⟨a⟩ := a; obtain ⟨b⟩ := b; obtain ⟨c⟩ := c; obtain ⟨d⟩ := d; obtain ⟨x⟩ := x
  exact ⟨⟨c ++ a⟩, ⟨b ++ d⟩, by show Str.mk ((c ++ ((a ++ x) ++ b)) ++ d) = Str.mk (((c ++ a) ++ x) ++ (b ++ d)); simp [Array.append_assoc]⟩
end Pv
namespace Pv
open PySem PySem.Spec L2 PyProof.Rows
theorem tuple_mul0 (l : Addr) (items : Array Value) (n : Nat) (dd : Option Addr) (sl : Array (Option Value)) (x : Int) (u : Tok) (c0 : (decide (x < -(2 ^ 63)) || decide (x ≥ 2 ^ 63)) = false) (c1 : (items.isEmpty || x == 1) = false) (c2 : (decide (x ≤ 0) || items.isEmpty) = true) :
    Meets (Builtin.«tuple.__mul__» ⟨[.ref l, .int x u], []⟩) (fun _ R s => s.heap.get? l = some { cls := .type "tuple", dict := dd, data := .seq items n, slots := sl } ∧
      R (.ok (.ret (Value.ref s.heap.objs.size))) { s with heap := s.heap.push { cls := Value.type "tuple", data := Data.seq #[] }, toks := s.toks }) :=
  .of_wp fun prog w A R s h => by
    obtain ⟨hp, g, d, tk, os⟩ := s
    obtain ⟨hl, h⟩ := h
    have f1 := AutoSeq1.idx_int
    wp_walk using wpAny_loadPart' hl
    repeat (first
      | (refine wpAny_ite_false (decide_eq_false (by rw [c0]; exact Bool.false_ne_true)) ?_; wp_walk using wpAny_loadPart' hl)
      | (refine wpAny_ite_false (decide_eq_false (by rw [c1]; exact Bool.false_ne_true)) ?_; wp_walk using wpAny_loadPart' hl)
      | (refine wpAny_ite_true (decide_eq_true c2) ?_; wp_walk using wpAny_loadPart' hl))
    exact ⟨_, rfl, h⟩
theorem tuple_mul1 (l : Addr) (items : Array Value) (n : Nat) (dd : Option Addr) (sl : Array (Option Value)) (x : Int) (u : Tok) (c0 : (decide (x < -(2 ^ 63)) || decide (x ≥ 2 ^ 63)) = false) (c1 : (items.isEmpty || x == 1) = true) :
    Meets (Builtin.«tuple.__mul__» ⟨[.ref l, .int x u], []⟩) (fun _ R s => s.heap.get? l = some { cls := .type "tuple", dict := dd, data := .seq items n, slots := sl } ∧
      R (.ok (.ret (Value.ref l))) s) :=
  .of_wp fun prog w A R s h => by
    obtain ⟨hp, g, d, tk, os⟩ := s
    obtain ⟨hl, h⟩ := h
    have f1 := AutoSeq1.idx_int
    wp_walk using wpAny_loadPart' hl
    repeat (first
      | (refine wpAny_ite_false (decide_eq_false (by rw [c0]; exact Bool.false_ne_true)) ?_; wp_walk using wpAny_loadPart' hl)
      | (refine wpAny_ite_true (decide_eq_true c1) ?_; wp_walk using wpAny_loadPart' hl))
    exact ⟨_, rfl, h⟩
section
variable {X : Cx}
def rRep0 (K : PySem.W.Frag) : R2 := fun x y H Q => ∃ l xs, x = .ref l ∧ y = .int 0 ∧ SqT K H l xs ∧ xs ≠ [] ∧ ∀ p, H p = none → Q (.ref p) (upd H p (.tup []))
def rRep1 (K : PySem.W.Frag) : R2 := fun x y H Q => ∃ l xs, x = .ref l ∧ y = .int 1 ∧ SqT K H l xs ∧ Q (.ref l) H
theorem op_rep1 : OpR X (binaryOp .Mult) (rRep1 X.K) := by
  intro pins s σ H x y v u Q I rx ry h
  obtain ⟨l, xs, rfl, rfl, hT, q⟩ := h
  cases rx
  obtain ⟨t, rfl⟩ := ry
  obtain ⟨its, r, ⟨⟨cls, dd, data, sl⟩, ho, hc, n, hd⟩, hs⟩ := I.tuple hT
  simp only at hc hd
  subst hc hd
  refine wpAny_binaryOp_repeat_ref (T := "tuple") (U := "int") (by decide) ⟨_, ho, rfl⟩ (fun s' => typeIs_int s' 1 t) noFill_tuple_mul F.fills_int_mul F.slot_int_rmul repeat_tuple F.slot_int_index.lookup
    (call_meets F.slot_int_rmul (typeIs_int s 1 t) F.entry_int_rmul (F.args_int_rmul_2 _ _) (int_rmul_tuple 1 t l its.toArray n dd sl)
      ⟨ho, rfl, ⟨_, ho, rfl⟩, call_meets F.slot_tuple_mul ⟨_, ho, rfl⟩ F.entry_tuple_mul (F.args_tuple_mul_2 _ _) (tuple_mul1 l its.toArray n dd sl 1 t (by decide) (by simp)) ⟨ho, ?_⟩⟩)
  exact ⟨.ref l, H, I, rfl, q⟩
theorem op_rep0 : OpR X (binaryOp .Mult) (rRep0 X.K) := by
  intro pins s σ H x y v u Q I rx ry h
  obtain ⟨l, xs, rfl, rfl, hT, hne, q⟩ := h
  cases rx
  obtain ⟨t, rfl⟩ := ry
  obtain ⟨its, r, ⟨⟨cls, dd, data, sl⟩, ho, hc, n, hd⟩, hs⟩ := I.tuple hT
  simp only at hc hd
  subst hc hd
  have hn : its ≠ [] := fun e => hne (by
    have hle : its.length = xs.length := r.length.symm
    rw [e] at hle
    exact List.eq_nil_of_length_eq_zero hle.symm)
  have hi : its.toArray.isEmpty = false := by
    cases its with
    | nil => exact absurd rfl hn
    | cons a b => rfl
  refine wpAny_binaryOp_repeat_ref (T := "tuple") (U := "int") (by decide) ⟨_, ho, rfl⟩ (fun s' => typeIs_int s' 0 t) noFill_tuple_mul F.fills_int_mul F.slot_int_rmul repeat_tuple F.slot_int_index.lookup
    (call_meets F.slot_int_rmul (typeIs_int s 0 t) F.entry_int_rmul (F.args_int_rmul_2 _ _) (int_rmul_tuple 0 t l its.toArray n dd sl)
      ⟨ho, rfl, ⟨_, ho, rfl⟩, call_meets F.slot_tuple_mul ⟨_, ho, rfl⟩ F.entry_tuple_mul (F.args_tuple_mul_2 _ _) (tuple_mul0 l its.toArray n dd sl 0 t (by decide) (by rw [hi]; rfl) (by simp)) ⟨ho, ?_⟩⟩)
  refine ⟨.ref s.heap.objs.size, _, I.laid (t' := s.toks) (o := .tup []) (fun b ob q => Heap.get?_push_of_some _ q) (Nat.le_refl _) ?_, rfl, q _ (I.hok.fresh (Nat.le_refl _))⟩
  exact ⟨Nat.zero_le _, _, .nil, IsTup.new _ _⟩
/-- times: 0 and 1 too -/
def mulA : OpP := fun x y st Q => match x, y with
  | .tup xs, .int k => xs ≠ [] ∧ 0 ≤ k ∧ k ≤ 1000 ∧ xs.length ≤ 1000 ∧ Q (.tup (List.replicate k.toNat xs).flatten) st
  | x, y => mulR x y st Q
theorem dop_mulA : DOp X (binaryOp .Mult) mulA := by
  refine ⟨?_⟩
  intro ro fr H st x y v u Q S rx ry h
  unfold mulA at h
  split at h
  · rename_i xs k
    obtain ⟨h0, h1, h2, h3, q⟩ := h
    by_cases k0 : k = 0
    · subst k0
      cases rx with
      | @tup a _ vs t1 r1 =>
        cases ry
        exact toRW op_rep0 ⟨a, vs, rfl, rfl, t1.sq, fun e => by subst e; cases r1; exact h0 rfl, fun p hp => new_tup S .nil hp (by simpa using q)⟩
    · by_cases k1 : k = 1
      · subst k1
        cases rx with
        | @tup a _ vs t1 r1 =>
          cases ry
          have e1 : (List.replicate (1 : Int).toNat xs).flatten = xs := by simp
          rw [e1] at q
          exact toRW op_rep1 ⟨a, vs, rfl, rfl, t1.sq, ro, _, st, .refl, S, .tup t1 r1, q⟩
      · exact dop_mul.run _ _ _ _ _ _ _ _ _ S rx ry (show mulR (.tup xs) (.int k) st Q from ⟨h0, by omega, h2, h3, q⟩)
  · exact dop_mul.run _ _ _ _ _ _ _ _ _ S rx ry h
end
end Pv
namespace Pv
open PySem PySem.Spec L2
def inKR : OpP := fun x y st Q => ∃ ks xs k, dkP st y = some (ks, xs) ∧ kP x = some k ∧ Q (.bl (getP ks xs k).isSome) st
def notInKR : OpP := fun x y st Q => ∃ ks xs k, dkP st y = some (ks, xs) ∧ kP x = some k ∧ Q (.bl (!(getP ks xs k).isSome)) st
def dgetmR : MtP := fun x xs st Q => ∃ ks vs y d k, dkP st x = some (ks, vs) ∧ (xs = [y] ∧ d = .non ∨ xs = [y, d]) ∧ kP y = some k ∧ Q ((getP ks vs k).getD d) st
section
variable {X : Cx}
def setdR : MtP := fun x xs st Q => ∃ n ks vs y d k, x = .ref n ∧ xs = [y, d] ∧ st[n]? = some (.dk ks vs) ∧ kP y = some k ∧ ks.Nodup ∧ ks.length < sizeLine ∧
  (∀ z, getP ks vs k = some z → Q z st) ∧ (getP ks vs k = none → Q d (st.set n (.dk (putP ks vs k d).1 (putP ks vs k d).2)))
end
def gDk (wo wi : WE) : WG := fun v env st Q => wo env st fun x st1 => wi env st1 fun y st2 => ∃ n ks vs k, x = .ref n ∧ kP y = some k ∧ st2[n]? = some (.dk ks vs) ∧ ks.Nodup ∧ ks.length < sizeLine ∧ Q env (st2.set n (.dk (putP ks vs k v).1 (putP ks vs k v).2))
end Pv
namespace Pv
open PySem PySem.Spec L2
def dcGo (gd : Sto → Prop) (g : WG) (tt : WT) (tk te : WE) (env : Envp) : List PV → List Key → List PV → Sto → (List Key → List PV → Sto → Prop) → Prop
  | [], ks, vs, st, k => gd st ∧ k ks vs st
  | x :: xs, ks, vs, st, k => gd st ∧ g x env st fun env2 st2 => tt env2 st2 fun b st3 => if b = true then tk env2 st3 fun y st4 => te env2 st4 fun z st5 => ∃ kk, kP y = some kk ∧ ks.Nodup ∧ ks.length < sizeLine ∧ dcGo gd g tt tk te env xs (putP ks vs kk z).1 (putP ks vs kk z).2 st5 k else dcGo gd g tt tk te env xs ks vs st3 k
def wDc (m : Bool) (wi : WI) (g : WG) (tt : WT) (tk te : WE) (own : List Nat) : WE := fun env st Q => wi env st fun p st1 => dcGo p.guard g tt tk te (wipeP env own) p.items [] [] st1 fun ks vs st2 => newD m ks vs st2 Q
end Pv
namespace Pv
open PySem PySem.Spec L2
/-- many put -/
def putPs : List Key → List PV → List Key → List PV → List Key × List PV
  | ks, vs, k :: ks', v :: vs' => putPs (putP ks vs k v).1 (putP ks vs k v).2 ks' vs'
  | ks, vs, _, _ => (ks, vs)
section
variable {X : Cx}
def updR : MtP := fun x xs st Q => ∃ n ks vs y ks' vs', x = .ref n ∧ xs = [y] ∧ y ≠ .ref n ∧ st[n]? = some (.dk ks vs) ∧ dkP st y = some (ks', vs') ∧ ks.Nodup ∧ ks.length = vs.length ∧ ks.length + ks'.length ≤ sizeLine ∧
  Q .non (st.set n (.dk (putPs ks vs ks' vs').1 (putPs ks vs ks' vs').2))
end
def dictR (m : Bool) : CaP := fun xs st Q => ∃ (x : PV) (kvs : List (Key × PV)), xs = [x] ∧ lstP st x = some (kvs.map fun p => PV.tup [kPV p.1, p.2]) ∧ newD m (putPs [] [] (kvs.map (·.1)) (kvs.map (·.2))).1 (putPs [] [] (kvs.map (·.1)) (kvs.map (·.2))).2 st Q
end Pv
namespace Pv
open PySem PySem.Spec L2
def wTupRg (wa : WE) : WE := fun env st Q => wa env st fun x st1 => ∃ j : Nat, x = .int (j : Nat) ∧ j ≤ 1000000 ∧ Q (.tup (rgP 0 j)) st1
end Pv
namespace Pv
open PySem PySem.Spec L2 PyProof.Rows
end Pv
namespace Pv
open PySem PySem.Spec L2 PyProof.Rows
def ptupleR : CaP := fun xs st Q => ∃ (x : PV) (ys : List PV), xs = [x] ∧ lstP st x = some ys ∧ Q (.ptp ys) st
section
variable {X : Cx}
theorem call_ptuple_of : CallR X (.type "tuple") (fun xs H Q => ∃ p ys, xs = [.ref p] ∧ SqL X.K H p ys ∧ ∀ (l : Addr) (o : Obj), o.dict = none → H l = none → Q (.ref l) (upd H l (.frz o (.tup ys)))) := by
  intro pins s σ H xs us Q I r h
  obtain ⟨p, ys, rfl, hq, q⟩ := h
  obtain ⟨u, rfl, rx⟩ := vals1 r
  cases rx
  obtain ⟨its, r', pl, hz⟩ := I.list hq
  have hlen := r'.length
  refine call_tuple_list pl.isList (fun h' kp => ?_) (by simp only [List.size_toArray] <;> omega)
  have I1 : Inv X pins σ H { s with heap := h' } := I.kept (t' := s.toks) kp
  have I2 : Inv X pins σ (upd H h'.objs.size (.frz { cls := .type "tuple", data := .seq its.toArray } (.tup ys))) { s with heap := h'.push { cls := .type "tuple", data := .seq its.toArray } } :=
    I1.laid (t' := s.toks) (fun b o e => Heap.get?_push_of_some _ e) (Nat.le_refl _) (show ObjOk X.prog X.w _ _ _ (.frz _ (.tup ys)) from ⟨Heap.get?_push_size _ rfl, hz, its, r', IsTup.new _ _⟩)
  exact ⟨.ref h'.objs.size, _, I2, rfl, q _ _ rfl (I1.hok.fresh (Nat.le_refl _))⟩
theorem dca_ptuple : DCa X (.type "tuple") ptupleR := by
  refine ⟨?_⟩
  rintro ro fr H st xs vs Q S r ⟨x, ys, rfl, hy, q⟩
  obtain ⟨v, rfl, r1⟩ := one_rep r
  obtain ⟨a, us, rfl, hs, rs⟩ := lstP_at S r1 hy
  exact toC call_ptuple_of ⟨a, us, rfl, hs, fun p o hd hp => ⟨ro, .ptp ys, st, ext_new hp, S.new hp, .ptp ⟨⟨o, upd_same, hd⟩, S.fresh hp⟩ (rs.ext (ext_new hp)), q⟩⟩
end
end Pv
namespace Pv
open PySem PySem.Spec L2
def ZStT (z TI TO i1 i2 a b S : Addr) (i : Nat) (h : Heap) : Prop := (∃ o, h.get? TO = some o) ∧ IsPair h TI (.ref i1) (.ref i2) ∧ h.IsTupleIter i1 a i ∧ h.IsTupleIter i2 b i ∧
  ((IsZip h z TI TO .none ∧ ∃ p q, IsPair h TO p q) ∨ ∃ T f oT, IsZipHeld h z TI TO T f ∧ h.get? T = some oT ∧ T ≠ z ∧ T ≠ i1 ∧ T ≠ i2 ∧ T ≠ S)
theorem ZStT.at {z TI TO i1 i2 a b S : Addr} {i : Nat} {h h' : Heap} (st : ZStT z TI TO i1 i2 a b S i h) (hS : z ≠ S ∧ TI ≠ S ∧ TO ≠ S ∧ i1 ≠ S ∧ i2 ≠ S) (k : ∀ c o, c ≠ S → h.get? c = some o → h'.get? c = some o) : ZStT z TI TO i1 i2 a b S i h' := by
  obtain ⟨⟨oTO, hoTO⟩, hTI, h1, h2, hz⟩ := st
  obtain ⟨n1, n2, n3, n4, n5⟩ := hS
  refine ⟨⟨_, k _ _ n3 hoTO⟩, k _ _ n2 hTI, h1.at fun o e => k _ o n4 e, h2.at fun o e => k _ o n5 e, ?_⟩
  rcases hz with ⟨hz, p, q, hTO⟩ | ⟨T, f, oT, hz, hT, r1, r2, r3, r4⟩
  · exact .inl ⟨k _ _ n1 hz, p, q, k _ _ n3 hTO⟩
  · exact .inr ⟨T, f, oT, k _ _ n1 hz, k _ _ r4 hT, r1, r2, r3, r4⟩
end Pv
namespace Pv
open PySem PySem.Spec L2
variable {X : Cx}
end Pv
namespace Pv
open PySem PySem.Spec L2
theorem ptp_tup {K : PySem.W.Frag} {ro fr : List Addr} {H : Hp} {xs : List PV} {v : V} (r : RepV K ro fr H (.ptp xs) v) : RepV K ro fr H (.tup xs) v := by
  cases r with
  | ptp h rs =>
    obtain ⟨⟨o, h, _⟩, n, m⟩ := h
    exact .tup (.inl ⟨.inr ⟨o, h⟩, n, m⟩) rs
variable {X : Cx}
end Pv
namespace Pv
open PySem PySem.Spec L2 PyProof.Rows
section
variable {X : Cx}
theorem pe_tupO {es : List Expr} {t : TA} {pos : Pos} {x1} (h : PA X es t) : PE X (.Tuple es x1 pos) (fun σ H Q => t σ H fun xs H1 => xs.length ≤ sizeLine ∧ ∀ p o, o.dict = none → H1 p = none → Q (.ref p) (upd H1 p (.frz o (.tup xs)))) := by
  refine ⟨fun pins s σ H Q I hq => ?_⟩
  refine wpAny_Tuple_spliced (thn (h.run pos pins s σ H _ I hq) fun us s1 ⟨xs, H1, I1, r, z, q⟩ => ⟨by rw [← r.length]; exact z, ?_⟩)
  have hf : H1 s1.heap.objs.size = none := I1.hok.fresh (Nat.le_refl _)
  refine ⟨.ref s1.heap.objs.size, upd H1 s1.heap.objs.size (.frz { cls := .type "tuple", data := .seq us.toArray } (.tup xs)), I1.laid (t' := s1.toks) (fun b u e => Heap.get?_push_of_some _ e) (Nat.le_refl _) (show ObjOk X.prog X.w _ _ _ (.frz _ (.tup xs)) from ⟨Heap.get?_push_size _ rfl, z, us, r, ?_⟩), rfl, q _ _ rfl hf⟩
  exact ⟨_, Heap.get?_push_size _ rfl, rfl, _, rfl⟩
theorem d_ptup0 {k} {pos : Pos} : DE X (.Tuple [] k pos) (wC (.ptp [])) := by
  refine ⟨?_⟩
  intro ro fr σ H env st Q E S hw
  refine toW (pe_tupO pa_nil) ⟨by simp, fun p o hd hp => ?_⟩
  exact ⟨ro, .ptp [], st, ext_new hp, S.new hp, .ptp ⟨⟨o, upd_same, hd⟩, S.fresh hp⟩ .nil, hw⟩
end
end Pv
namespace Pv
open PySem PySem.Spec L2
end Pv
namespace Pv
open PySem PySem.Spec L2 PyProof.Rows PySem.W PySem.SeqAt
def insK (ks : List (List L2.Key)) (k : List L2.Key) : List (List Key) := if (ks.any fun x => decide (x = k)) = true then ks else ks ++ [k]
def insAll (ks more : List (List L2.Key)) : List (List L2.Key) := more.foldl insK ks
def dictTR : CaP := fun xs st Q => ∃ (x : PV) (kvs : List (List Key × PV)), xs = [x] ∧ lstP st x = some (kvs.map fun p => PV.tup [kTup p.1, p.2]) ∧ Q (.ref st.length) (st ++ [.dt (insAll [] (kvs.map (·.1))) []])
section
variable {X : Cx}
/-- sorted(d), d a dict whose keys are tuples -/
def sortDR (m : Bool) : CaP := fun xs st Q => ∃ (n : Nat) (ks : List (List Key)) (vs : List PV), xs = [.ref n] ∧ st[n]? = some (.dt ks vs) ∧ isDs (ks.map kTup) = true ∧ AlikeP (ks.map kTup) ∧ (∀ y ∈ ks.map kTup, y ≠ .non ∧ (dat y).depth ≤ 60) ∧ newL m (sortP (ks.map kTup)) st Q
end
end Pv
namespace Pv
open PySem PySem.Spec L2
def popIR : MtP := fun x xs st Q => ∃ (n i : Nat) (ys : List PV) (y : PV), x = .ref n ∧ xs = [.int (i : Nat)] ∧ st[n]? = some (.lst ys) ∧ i < 1000000 ∧ ys[i]? = some y ∧ Q y (st.set n (.lst (ys.eraseIdx i)))
end Pv
namespace Pv
open PySem PySem.Spec L2
def zipW (xs ys : List PV) : List PV := List.zipWith (fun a b => PV.tup [a, b]) xs ys
theorem zip_get {xs ys : List PV} {i : Nat} {z : PV} (h : (zipW xs ys)[i]? = some z) : ∃ x y, xs[i]? = some x ∧ ys[i]? = some y ∧ z = .tup [x, y] := by
  unfold zipW at h
  rw [List.getElem?_zipWith] at h
  cases e1 : xs[i]? with
  | none => rw [e1] at h; cases h
  | some x =>
    cases e2 : ys[i]? with
    | none => rw [e1, e2] at h; cases h
    | some y => rw [e1, e2] at h; cases h; exact ⟨x, y, rfl, rfl, rfl⟩
section
variable {K : PySem.W.Frag} {ro fr : List Addr} {H : Hp} {st : Sto} {x y : PV} {v u : V} {xs ys : List PV}
theorem it_zipL (r : RepV K ro fr H x v) (r2 : RepV K ro fr H y u) {a b : Addr} (hv : v = .ref a) (hu : u = .ref b) (h : lstP st x = some xs) (h2 : lstP st y = some ys) : RepIt K ro fr H (Itz K a b) ⟨zipW xs ys, fun s => gdOf x xs s ∧ gdOf y ys s⟩ := by
  intro fr' ro' H' st' hf S g
  have r' := hf _ _ r
  have r2' := hf _ _ r2
  obtain ⟨a', vs, hb, sq, rs⟩ := lstP_at S r' (lst_kept h g.1)
  rw [hv] at hb; cases hb
  obtain ⟨b', ws, hb2, sq2, rs2⟩ := lstP_at S r2' (lst_kept h2 g.2)
  rw [hu] at hb2; cases hb2
  refine ⟨fun i z hz => ?_, vs, ws, sq, sq2, ?_⟩
  · obtain ⟨p, q, hp, hq, rfl⟩ := zip_get hz
    obtain ⟨c, hc, rc⟩ := rs.get hp
    obtain ⟨d, hd, rd⟩ := rs2.get hq
    refine ⟨⟨vs, ws, c, d, sq, sq2, hc, hd⟩, fun v' H'' q => ?_⟩
    obtain ⟨T, m, n, rfl, hT, rfl, q1, q2⟩ := q
    have e1 := q1 vs sq
    have e2 := q2 ws sq2
    rw [hc] at e1; cases e1
    rw [hd] at e2; cases e2
    exact new_pair S hT rc rd
  · have e1 := rs.length
    have e2 := rs2.length
    show vs.length ≤ (zipW xs ys).length ∨ ws.length ≤ (zipW xs ys).length
    unfold zipW
    rw [List.length_zipWith]
    omega
theorem it_zipT (r : RepV K ro fr H (.tup xs) v) (r2 : RepV K ro fr H (.tup ys) u) {a b : Addr} (hv : v = .ref a) (hu : u = .ref b) : RepIt K ro fr H (RZ.ItzT K a b) ⟨zipW xs ys, fun s => gdOf (.tup xs) xs s ∧ gdOf (.tup ys) ys s⟩ := by
  intro fr' ro' H' st' hf S g
  have r' := hf _ _ r
  have r2' := hf _ _ r2
  subst hv
  subst hu
  cases r' with
  | @tup _ _ vs t1 rs =>
    cases r2' with
    | @tup _ _ ws t2 rs2 =>
      refine ⟨fun i z hz => ?_, vs, ws, t1.sq, t2.sq, ?_⟩
      · obtain ⟨p, q, hp, hq, rfl⟩ := zip_get hz
        obtain ⟨c, hc, rc⟩ := rs.get hp
        obtain ⟨d, hd, rd⟩ := rs2.get hq
        refine ⟨⟨vs, ws, c, d, t1.sq, t2.sq, hc, hd⟩, fun v' H'' q => ?_⟩
        obtain ⟨T, m, n, rfl, hT, rfl, q1, q2⟩ := q
        have e1 := q1 vs t1.sq
        have e2 := q2 ws t2.sq
        rw [hc] at e1; cases e1
        rw [hd] at e2; cases e2
        exact new_pair S hT rc rd
      · have e1 := rs.length
        have e2 := rs2.length
        show vs.length ≤ (zipW xs ys).length ∨ ws.length ≤ (zipW xs ys).length
        unfold zipW
        rw [List.length_zipWith]
        omega
end
def iZipP (wa : WA) : WI := fun env st R => wa env st fun vs st1 => ∃ x y xs ys, vs = [x, y] ∧ ((x = .tup xs ∧ y = .tup ys) ∨ (lstP st1 x = some xs ∧ lstP st1 y = some ys)) ∧ R ⟨zipW xs ys, fun s => gdOf x xs s ∧ gdOf y ys s⟩ st1
section
variable {X : Cx} {a b : Expr} {wa : WA} {p pos : Pos}
theorem di_zip {elts : List Expr} {kk : Nat} {tpos : Pos} (hg : Gl X "zip") (hm : X.mg "zip" = none) (ha : DA X [a, b] wa) (hs : starEach [a, b] X.env = [(false, eval a X.env), (false, eval b X.env)] := by exact star_two (by rfl) (by rfl)) (hs2 : starEach [b] X.env = [(false, eval b X.env)] := by exact star_one (by rfl)) :
    DI X (.Tuple elts kk tpos) (.Call (.Name "zip" p) [a, b] [] pos) (iZipP wa) := by
  refine ⟨?_⟩
  intro ro fr σ H env st R E S hw
  refine toWI (RZ.pi_zipA hg hm (pa_W X _) (by rw [hs, hs2]) (by rw [hs2]; rfl)) ?_
  refine tWA.mono (ha _ _ _ _ _ _ _ E S hw) fun vs H1 ⟨ro1, xs', st1, e1, S1, r1, x, y, xs, ys, hx, hk, q⟩ => ?_
  subst hx
  obtain ⟨v, u, rfl, r, r'⟩ := two_rep r1
  rcases hk with ⟨rfl, rfl⟩ | ⟨h1, h2⟩
  · cases r with
    | @tup a' _ vs' t1 rs =>
      cases r' with
      | @tup b' _ ws t2 rs2 =>
        exact ⟨a', b', vs', ws, rfl, .inr ⟨t1.sq, t2.sq, ro1, _, st1, e1, S1, it_zipT (.tup t1 rs) (.tup t2 rs2) rfl rfl, q⟩⟩
  · obtain ⟨a', vs', e, sq, rs⟩ := lstP_at S1 r h1
    obtain ⟨b', ws, e', sq2, rs2⟩ := lstP_at S1 r' h2
    subst e
    subst e'
    exact ⟨a', b', vs', ws, rfl, .inl ⟨sq, sq2, ro1, _, st1, e1, S1, it_zipL r r' rfl rfl h1 h2, q⟩⟩
end
end Pv
namespace Pv
open PySem PySem.Spec L2
def sIdxR : MtP := fun x xs st Q => ∃ (a b : Str) (i : Nat) (rest : List Nat), x = .str a ∧ xs = [.str b] ∧ Builtin.Str.occurrences a b 0 a.length 1 = i :: rest ∧ Q (.int (i : Nat)) st
def lIdxR : MtP := fun x xs st Q => ∃ (y : PV) (d : PyData) (ds : List PyData) (j : Nat) (z : PyData), xs = [y] ∧ datS st x = some (.list ds) ∧ datS st y = some d ∧ SeqAt.shaped (.list ds) = true ∧ SeqAt.shaped d = true ∧ ds[j]? = some z ∧ PyData.eqv z d = true ∧
  (∀ (m : Nat) (z' : PyData), m < j → ds[m]? = some z' → PyData.eqv z' d = false) ∧ Q (.int (j : Nat)) st
end Pv
namespace Pv
open PySem PySem.Spec L2 PyProof.Rows
mutual
inductive RdN (h : Heap) : Value → PyData → Prop
  | none : RdN h .none .none
  | bool (b : Bool) : RdN h (.bool b) (.bool b)
  | int (i : Int) (t : Tok) : RdN h (.int i t) (.int i)
  | str (x : Str) (t : Tok) : RdN h (.str x t) (.str x)
  | list {a o vs n xs} : h.get? a = some o → o.cls = .type "list" → o.data = .seq vs n → RdNs h vs.toList xs → RdN h (.ref a) (.list xs)
  | tuple {a o vs n xs} : h.get? a = some o → o.cls = .type "tuple" → o.data = .seq vs n → RdNs h vs.toList xs → RdN h (.ref a) (.tuple xs)
  | dict {a o es n kvs} : (a == sysModules) = false → h.get? a = some o → o.cls = .type "dict" → o.data = .dict es n → RdNs h (es.toList.map (·.key)) (kvs.map (·.1)) → RdNs h (es.toList.map (·.val)) (kvs.map (·.2)) → RdN h (.ref a) (.dict kvs)
inductive RdNs (h : Heap) : List Value → List PyData → Prop
  | nil : RdNs h [] []
  | cons {v vs d ds} : RdN h v d → RdNs h vs ds → RdNs h (v :: vs) (d :: ds)
end
section
variable {h : Heap} {prog : Program} {w : World}
mutual
theorem RdN.reads : ∀ {v : Value} {d : PyData}, RdN h v d → ∃ as, Reads h v d as
  | _, _, .none => ⟨_, .none⟩
  | _, _, .bool b => ⟨_, .bool b⟩
  | _, _, .int i t => ⟨_, .int i t⟩
  | _, _, .str x t => ⟨_, .str x t⟩
  | _, _, .list h1 h2 h3 h4 => let ⟨_, q⟩ := RdNs.reads h4; ⟨_, .list h1 h2 h3 q⟩
  | _, _, .tuple h1 h2 h3 h4 => let ⟨_, q⟩ := RdNs.reads h4; ⟨_, .tuple h1 h2 h3 q⟩
  | _, _, .dict _ h1 h2 h3 h4 h5 => let ⟨_, q⟩ := RdNs.reads h4; let ⟨_, q2⟩ := RdNs.reads h5; ⟨_, .dict h1 h2 h3 q q2⟩
theorem RdNs.reads : ∀ {vs : List Value} {ds : List PyData}, RdNs h vs ds → ∃ as, ReadsAll h vs ds as
  | _, _, .nil => ⟨_, .nil⟩
  | _, _, .cons r rs => let ⟨_, q⟩ := RdN.reads r; let ⟨_, q2⟩ := RdNs.reads rs; ⟨_, .cons q q2⟩
end
mutual
theorem RdN.shows : ∀ {v : Value} {d : PyData}, RdN h v d → d.showable = true → d.shown.length ≤ sizeLine → ∃ bs, ReadAtMost h d.depth bs ∧ ReprK prog w bs h d.depth v d.shown
  | _, _, .none, _, _ => ⟨[], nofun, by simp only [PyData.shown]; exact .of_is ReprIs.none _ _ _⟩
  | _, _, .bool b, _, _ => ⟨[], nofun, by simp only [PyData.shown]; exact .of_is (ReprIs.bool b) _ _ _⟩
  | _, _, .int i t, hs, _ => ⟨[], nofun, by simp only [PyData.shown]; exact .of_is (ReprIs.int t (by simpa [PyData.showable] using hs)) _ _ _⟩
  | _, _, .str x t, _, hz => ⟨[], nofun, by simp only [PyData.shown]; exact .of_is (ReprIs.str x t (by simpa only [PyData.shown] using hz)) _ _ _⟩
  | _, _, .list (a := a) (vs := vs) (xs := xs) h1 h2 h3 h4, hs, hz => by
    simp only [PyData.shown] at hz
    obtain ⟨bs, hb, hk⟩ := RdNs.shows h4 (by simpa [PyData.showable] using hs) fun t ht => Nat.le_trans (listText_mem_le ht) hz
    obtain ⟨as, r⟩ := RdN.reads (.list h1 h2 h3 h4)
    have hlt : PyData.depthAll xs < (PyData.list xs).depth := by simp only [PyData.depth]; omega
    have hna : a ∉ bs := not_mem_of_deeper r hlt hb
    refine ⟨a :: bs, ReadAtMost.cons r (Nat.le_of_lt hlt) hb, ?_⟩
    simp only [PyData.depth, PyData.shown]
    obtain ⟨l⟩ := vs
    cases l with
    | nil =>
      have h5 : RdNs h [] xs := h4
      cases h5
      simp only [PyData.shownAll, listText_nil]
      exact ReprK.listEmpty h1 h2 h3
    | cons x l => exact ReprK.list h1 h2 h3 hna (by simpa using hk.length_eq) fun i y e => hk.item i y (by simpa using e)
  | _, _, .tuple (a := a) (xs := xs) h1 h2 h3 h4, hs, hz => by
    simp only [PyData.shown] at hz
    obtain ⟨bs, hb, hk⟩ := RdNs.shows h4 (by simpa [PyData.showable] using hs) fun t ht => Nat.le_trans (tupleText_mem_le ht) hz
    obtain ⟨as, r⟩ := RdN.reads (.tuple h1 h2 h3 h4)
    have hlt : PyData.depthAll xs < (PyData.tuple xs).depth := by simp only [PyData.depth]; omega
    have hna : a ∉ bs := not_mem_of_deeper r hlt hb
    refine ⟨a :: bs, ReadAtMost.cons r (Nat.le_of_lt hlt) hb, ?_⟩
    simp only [PyData.depth, PyData.shown]
    exact ReprK.tuple h1 h2 h3 hna hk
  | _, _, .dict (a := a) (es := es) (kvs := kvs) h0 h1 h2 h3 h4 h5, hs, hz => by
    simp only [PyData.shown] at hz
    obtain ⟨hs1, hs2⟩ := PyData.showableKv_split kvs (by simpa [PyData.showable] using hs)
    obtain ⟨b1, hb1, k1⟩ := RdNs.shows h4 hs1 fun t ht => let ⟨p, hp, hl⟩ := PyData.shownKv_key_le kvs t ht; Nat.le_trans hl (Nat.le_trans (dictText_mem_le hp) hz)
    obtain ⟨b2, hb2, k2⟩ := RdNs.shows h5 hs2 fun t ht => let ⟨p, hp, hl⟩ := PyData.shownKv_val_le kvs t ht; Nat.le_trans hl (Nat.le_trans (dictText_mem_le hp) hz)
    obtain ⟨as, r⟩ := RdN.reads (.dict h0 h1 h2 h3 h4 h5)
    have hb : ReadAtMost h (PyData.depthKv kvs) (b1 ++ b2) := (hb1.mono (PyData.depthAll_keys_le kvs)).append (hb2.mono (PyData.depthAll_vals_le kvs))
    have hlt : PyData.depthKv kvs < (PyData.dict kvs).depth := by simp only [PyData.depth]; omega
    have hna : a ∉ b1 ++ b2 := not_mem_of_deeper r hlt hb
    refine ⟨a :: (b1 ++ b2), ReadAtMost.cons r (Nat.le_of_lt hlt) hb, ?_⟩
    simp only [PyData.depth, PyData.shown, PyData.shownKv_eq]
    exact ReprK.dict h1 h2 h3 h0 hna (ReprEntriesK.of_two es.toList _ _ (k1.more_le (fun b hb => List.mem_append_left _ hb) (PyData.depthAll_keys_le kvs)) (k2.more_le (fun b hb => List.mem_append_right _ hb) (PyData.depthAll_vals_le kvs)))
theorem RdNs.shows : ∀ {vs : List Value} {ds : List PyData}, RdNs h vs ds → PyData.showableAll ds = true → (∀ t ∈ PyData.shownAll ds, t.length ≤ sizeLine) → ∃ bs, ReadAtMost h (PyData.depthAll ds) bs ∧ ReprAllK prog w bs h (PyData.depthAll ds) vs (PyData.shownAll ds)
  | _, _, .nil, _, _ => ⟨[], nofun, by simp only [PyData.shownAll]; exact .nil⟩
  | _, _, .cons (d := d) (ds := ds) r rs, hs, hz => by
    simp only [PyData.showableAll, Bool.and_eq_true] at hs
    simp only [PyData.shownAll] at hz
    obtain ⟨b1, hb1, k1⟩ := RdN.shows r hs.1 (hz _ List.mem_cons_self)
    obtain ⟨b2, hb2, k2⟩ := RdNs.shows rs hs.2 fun t ht => hz t (List.mem_cons_of_mem _ ht)
    have e1 : d.depth ≤ PyData.depthAll (d :: ds) := by simp only [PyData.depthAll]; omega
    have e2 : PyData.depthAll ds ≤ PyData.depthAll (d :: ds) := by simp only [PyData.depthAll]; omega
    refine ⟨b1 ++ b2, (hb1.mono e1).append (hb2.mono e2), ?_⟩
    simp only [PyData.shownAll]
    exact .cons ((k1.more fun b hb => List.mem_append_left _ hb).level_le e1) (k2.more_le (fun b hb => List.mem_append_right _ hb) e2)
end
theorem RdN.showsBy {a : Addr} {d : PyData} (r : RdN h (.ref a) d) (hs : d.showable = true) (hz : d.shown.length ≤ sizeLine) : ∃ T idr, ShowsBy prog w h a d T idr := by
  have big := r
  cases r with
  | list h1 h2 h3 h4 =>
    rename_i o vs n xs
    simp only [PyData.shown] at hz
    obtain ⟨bs, hb, hk⟩ := RdNs.shows (prog := prog) (w := w) h4 (by simpa [PyData.showable] using hs) fun t ht => Nat.le_trans (listText_mem_le ht) hz
    obtain ⟨as, r⟩ := big.reads
    have hna : a ∉ bs := not_mem_of_deeper r (by simp only [PyData.depth]; omega) hb
    refine ⟨"list", "list.__repr__", F.slot_list_repr.toG, F.slot_list_str, F.slot_list_format, fun s hk0 => ⟨o, hk0 _ _ h1, h2⟩, fun A E s Q hg hu hk0 hQ => ?_⟩
    simp only [PyData.depth] at hu
    simp only [PyData.shown] at hQ
    obtain ⟨l⟩ := vs
    cases l with
    | nil =>
      have h5 : RdNs h [] xs := h4
      cases h5
      simp only [PyData.shownAll, listText_nil] at hQ
      exact call_list_repr_empty ⟨o, hk0 _ _ h1, h2⟩ (hk0 _ _ h1) h3 (hQ s.heap _ _ fun _ _ e => e)
    | cons x l => exact call_list_reprK h1 h2 h3 hna (by simpa using hk.length_eq) (fun i y e => hk.item i y (by simpa using e)) hg (fun b _ => Clear.nil b) hu hk0 hQ hz
  | tuple h1 h2 h3 h4 =>
    rename_i o vs n xs
    simp only [PyData.shown] at hz
    obtain ⟨bs, hb, hk⟩ := RdNs.shows (prog := prog) (w := w) h4 (by simpa [PyData.showable] using hs) fun t ht => Nat.le_trans (tupleText_mem_le ht) hz
    obtain ⟨as, r⟩ := big.reads
    have hna : a ∉ bs := not_mem_of_deeper r (by simp only [PyData.depth]; omega) hb
    refine ⟨"tuple", "tuple.__repr__", F.slot_tuple_repr, F.slot_tuple_str, F.slot_tuple_format, fun s hk0 => ⟨o, hk0 _ _ h1, h2⟩, fun A E s Q hg hu hk0 hQ => ?_⟩
    simp only [PyData.depth] at hu
    simp only [PyData.shown] at hQ
    exact call_tuple_reprK h1 h2 h3 hna hk hg (fun b _ => Clear.nil b) hu hk0 hQ hz
  | dict h0 h1 h2 h3 h4 h5 =>
    rename_i o es n kvs
    simp only [PyData.shown] at hz
    obtain ⟨hs1, hs2⟩ := PyData.showableKv_split kvs (by simpa [PyData.showable] using hs)
    obtain ⟨b1, hb1, k1⟩ := RdNs.shows (prog := prog) (w := w) h4 hs1 fun t ht => let ⟨p, hp, hl⟩ := PyData.shownKv_key_le kvs t ht; Nat.le_trans hl (Nat.le_trans (dictText_mem_le hp) hz)
    obtain ⟨b2, hb2, k2⟩ := RdNs.shows (prog := prog) (w := w) h5 hs2 fun t ht => let ⟨p, hp, hl⟩ := PyData.shownKv_val_le kvs t ht; Nat.le_trans hl (Nat.le_trans (dictText_mem_le hp) hz)
    obtain ⟨as, r⟩ := big.reads
    have hb : ReadAtMost h (PyData.depthKv kvs) (b1 ++ b2) := (hb1.mono (PyData.depthAll_keys_le kvs)).append (hb2.mono (PyData.depthAll_vals_le kvs))
    have hna : a ∉ b1 ++ b2 := not_mem_of_deeper r (by simp only [PyData.depth]; omega) hb
    refine ⟨"dict", "dict.__repr__", F.slot_dict_repr, F.slot_dict_str, F.slot_dict_format, fun s hk0 => ⟨o, hk0 _ _ h1, h2⟩, fun A E s Q hg hu hk0 hQ => ?_⟩
    simp only [PyData.depth] at hu
    simp only [PyData.shown, PyData.shownKv_eq] at hQ
    exact call_dict_reprK h1 h2 h3 h0 hna (ReprEntriesK.of_two es.toList _ _ (k1.more_le (fun b hb => List.mem_append_left _ hb) (PyData.depthAll_keys_le kvs)) (k2.more_le (fun b hb => List.mem_append_right _ hb) (PyData.depthAll_vals_le kvs))) hg (fun b _ => Clear.nil b) hu hk0 hQ (by rw [← PyData.shownKv_eq]; exact hz)
end
end Pv
namespace Pv
open PySem PySem.Spec L2 PyProof.Rows
mutual
def isG : PV → Bool
  | .non | .bl _ | .int _ | .str _ => true
  | .tup xs | .lst xs | .fls xs | .ptp xs | .dk _ xs => isGs xs
  | .ref _ | .fn _ | .ins _ _ _ => false
def isGs : List PV → Bool
  | [] => true
  | x :: xs => isG x && isGs xs
end
def kD : Key → PyData
  | .inl i => .int i
  | .inr s => .str s
mutual
def datG : PV → PyData
  | .non => .none
  | .bl b => .bool b
  | .int i => .int i
  | .str s => .str s
  | .tup xs | .ptp xs => .tuple (datGs xs)
  | .lst xs | .fls xs => .list (datGs xs)
  | .dk ks xs => .dict (datKv ks xs)
  | .ref _ | .fn _ | .ins _ _ _ => .none
def datGs : List PV → List PyData
  | [] => []
  | x :: xs => datG x :: datGs xs
def datKv : List Key → List PV → List (PyData × PyData)
  | _, [] => []
  | [], _ => []
  | k :: ks, x :: xs => (kD k, datG x) :: datKv ks xs
end
mutual
theorem datG_D : ∀ x : PV, isD x = true → datG x = dat x ∧ isG x = true
  | .non, _ => ⟨rfl, rfl⟩
  | .bl _, _ => ⟨rfl, rfl⟩
  | .int _, _ => ⟨rfl, rfl⟩
  | .str _, _ => ⟨rfl, rfl⟩
  | .tup xs, h => by simp only [datG, dat, isG]; obtain ⟨a, b⟩ := datGs_D xs (by simpa only [isD] using h); rw [a]; exact ⟨rfl, b⟩
  | .lst xs, h => by simp only [datG, dat, isG]; obtain ⟨a, b⟩ := datGs_D xs (by simpa only [isD] using h); rw [a]; exact ⟨rfl, b⟩
  | .fls xs, h => by simp only [datG, dat, isG]; obtain ⟨a, b⟩ := datGs_D xs (by simpa only [isD] using h); rw [a]; exact ⟨rfl, b⟩
  | .ptp _, h => by simp only [isD] at h; cases h
  | .fn _, h => by simp only [isD] at h; cases h
  | .ins _ _ _, h => by simp only [isD] at h; cases h
  | .dk _ _, h => by simp only [isD] at h; cases h
  | .ref _, h => by simp only [isD] at h; cases h
theorem datGs_D : ∀ xs : List PV, isDs xs = true → datGs xs = dats xs ∧ isGs xs = true
  | [], _ => ⟨rfl, rfl⟩
  | x :: xs, h => by
    simp only [isDs, Bool.and_eq_true] at h
    obtain ⟨a, b⟩ := datG_D x h.1
    obtain ⟨c, d⟩ := datGs_D xs h.2
    simp only [datGs, dats, isGs, a, b, c, d, Bool.and_self, and_self]
end
section
variable {X : Cx} {pins : List (Addr × Obj)} {σ : L2.St} {ro fr : List Addr} {H : Hp} {s : Shared}
mutual
theorem rd_G (I : Inv X pins σ H s) : ∀ (x : PV) (v : V) (u : Value), RepV X.K ro fr H x v → isG x = true → RelV v u → RdN s.heap u (datG x)
  | .non, _, _, h, _, r => by cases h; cases r; exact .none
  | .bl b, _, _, h, _, r => by cases h; cases r; exact .bool b
  | .int i, _, _, h, _, r => by cases h; obtain ⟨t, rfl⟩ := r; exact .int i t
  | .str x, _, _, h, _, r => by cases h; obtain ⟨t, rfl⟩ := r; exact .str x t
  | .tup xs, _, _, h, e, r => by
    cases h with
    | tup h1 h2 =>
      cases r
      obtain ⟨its, rv, ⟨o, ho, hc, n, hd⟩, _⟩ := I.tuple h1.sq
      exact .tuple ho hc hd (rd_Gs I xs _ its h2 (by simpa only [isG] using e) rv)
  | .ptp xs, _, _, h, e, r => by
    cases h with
    | ptp h1 h2 =>
      cases r
      obtain ⟨its, rv, ⟨o, ho, hc, n, hd⟩, _⟩ := I.tuple h1.sq
      exact .tuple ho hc hd (rd_Gs I xs _ its h2 (by simpa only [isG] using e) rv)
  | .lst xs, _, _, h, e, r => by
    cases h with
    | lst h1 h2 =>
      cases r
      obtain ⟨its, rv, ⟨o, n, ho, hc, _, hd⟩, _⟩ := I.list h1.sq
      exact .list ho hc hd (rd_Gs I xs _ its h2 (by simpa only [isG] using e) rv)
  | .fls xs, _, _, h, e, r => by
    cases h with
    | fls h1 h2 =>
      cases r
      obtain ⟨its, rv, ⟨o, n, ho, hc, _, hd⟩, _⟩ := I.list h1.sq
      exact .list ho hc hd (rd_Gs I xs _ its h2 (by simpa only [isG] using e) rv)
  | .dk ks xs, _, _, h, e, r => by
    cases h with
    | dk h1 h2 h3 =>
      cases r
      obtain ⟨_, hm, vs, rk, o, es, ep, o1, o2, o3, _, o5, _⟩ := dk_of I.hok h1.1
      subst h2
      obtain ⟨q1, q2⟩ := rd_Gkv I xs _ vs es.toList h3 (by simpa only [isG] using e) rk o5
      exact .dict hm o1 o2.1 o3 q1 q2
  | .ref _, _, _, _, e, _ => by simp only [isG] at e; cases e
  | .fn _, _, _, _, e, _ => by simp only [isG] at e; cases e
  | .ins _ _ _, _, _, _, e, _ => by simp only [isG] at e; cases e
theorem rd_Gs (I : Inv X pins σ H s) : ∀ (xs : List PV) (vs : List V) (us : List Value), RepVs X.K ro fr H xs vs → isGs xs = true → Vals vs us → RdNs s.heap us (datGs xs)
  | [], _, _, h, _, r => by cases h; cases r; exact .nil
  | x :: xs, _, _, h, e, r => by
    cases h with
    | cons h1 h2 =>
      cases r with
      | cons r1 r2 =>
        simp only [isGs, Bool.and_eq_true] at e
        exact .cons (rd_G I x _ _ h1 e.1 r1) (rd_Gs I xs _ _ h2 e.2 r2)
theorem rd_Gkv (I : Inv X pins σ H s) : ∀ (xs : List PV) (kvs : List (Key × V)) (vs : List (Key × Value)) (es : List DictEntry), RepVs X.K ro fr H xs (kvs.map (·.2)) → isGs xs = true → KV kvs vs → PySem.Pairs (mixKind X.prog X.w) es vs →
    RdNs s.heap (es.map (·.key)) ((datKv (kvs.map (·.1)) xs).map (·.1)) ∧ RdNs s.heap (es.map (·.val)) ((datKv (kvs.map (·.1)) xs).map (·.2))
  | [], kvs, vs, es, h, _, rk, p => by
    have hk : kvs = [] := by
      cases kvs with
      | nil => rfl
      | cons _ _ => cases h
    subst hk
    cases rk
    cases p
    exact ⟨.nil, .nil⟩
  | x :: xs, kvs, vs, es, h, e, rk, p => by
    cases kvs with
    | nil => cases h
    | cons kv kvs =>
      cases h with
      | cons h1 h2 =>
        cases rk with
        | cons r1 r2 =>
          cases p with
          | cons p1 p2 p3 =>
            simp only [isGs, Bool.and_eq_true] at e
            obtain ⟨q1, q2⟩ := rd_Gkv I xs kvs _ _ h2 e.2 r2 p3
            simp only [List.map_cons, datKv]
            refine ⟨.cons ?_ q1, .cons ?_ q2⟩
            · rw [r1.1]
              rcases keyIs_shape p1 with ⟨i, t, e1, e2⟩ | ⟨z, t, e1, e2⟩
              · rw [e1, e2]; exact .int i t
              · rw [e1, e2]; exact .str z t
            · rw [p2]
              exact rd_G I x _ _ h1 e.1 r1.2
end
end
end Pv
namespace Pv
open PySem PySem.Spec L2
section
variable {X : Cx}
def wPq (w : WE) : WE := fun env st Q => w env st fun x st1 => ∃ xs, (x = .ptp xs ∨ x = .tup xs) ∧ Q (.tup xs) st1
theorem d_ptq {e : Expr} {w : WE} (h : DE X e w) : DE X e (wPq w) := by
  refine ⟨fun ro fr σ H env st Q E S hw => ?_⟩
  refine tW.mono (h _ _ _ _ _ _ _ E S hw) fun v H1 ⟨ro1, x, st1, e1, S1, r1, xs, hx, q⟩ => ?_
  rcases hx with rfl | rfl
  · exact ⟨ro1, .tup xs, st1, e1, S1, ptp_tup r1, q⟩
  · exact ⟨ro1, .tup xs, st1, e1, S1, r1, q⟩
end
end Pv
namespace Pv
open PySem PySem.Spec L2 PyProof.Rows
end Pv
namespace Pv
open PySem PySem.Spec L2 PyProof.Rows
section
variable {X : Cx}
theorem cr_sumT (hc : X.calm = true) : CallR X (.builtin "sum") (fun vs H Q => ∃ (a : Addr) (ns : List Int), vs = [V.ref a] ∧ SqT X.K H a (ns.map V.int) ∧ Q (.int ns.sum) H) := by
  intro pins s σ H vs us Q I r h
  obtain ⟨a, ns, rfl, hs, q⟩ := h
  obtain ⟨its, rv, hl, _⟩ := I.tuple hs
  rw [Vals.ref1 r]
  have hi := rv.ints
  obtain ⟨xs, hx⟩ := hi.allInts.items
  have hn : numsOf its.toArray.toList = ns := by rw [show its.toArray.toList = its from rfl, hi.numsOf]
  rw [hx] at hl hn
  rw [nums_intItems] at hn
  refine PySem.W.ktm_sumG (I.ok.hd hc) hl fun h' tk t' hk => ?_
  rw [preSum_eq, List.take_of_length_le (by simp), hn]
  exact ⟨.int _, H, I.kept hk, ⟨_, rfl⟩, q⟩
def sumTR : CaP := fun xs st Q => ∃ x ns, xs = [x] ∧ seqP st x = some (pInts ns) ∧ Q (.int ns.sum) st
theorem dca_sumT (hc : X.calm = true) : DCa X (.builtin "sum") sumTR := by
  refine ⟨?_⟩
  rintro ro fr H st xs vs Q S r ⟨x, ns, rfl, hy, q⟩
  obtain ⟨v, rfl, r1⟩ := one_rep r
  obtain ⟨a, us, rfl, hs, rs⟩ := seqP_at S r1 hy
  rw [reps_ints rs] at hs
  rcases hs with hs | hs
  · exact toC (cr_sum hc) ⟨a, ns, rfl, hs, ro, _, st, .refl, S, .int _, q⟩
  · exact toC (cr_sumT hc) ⟨a, ns, rfl, hs, ro, _, st, .refl, S, .int _, q⟩
end
end Pv
namespace ZM
open PySem
open PySem.Sem (wp)
def cN (t : Bool) : String := if t then "tuple_iterator" else "list_iterator"
/-- at i an iterator of what lies at l, k items on: of a tuple, of a list -/
def It (t : Bool) (h : Heap) (i l : Addr) (k : Nat) : Prop := match t with
  | true => h.IsTupleIter i l k
  | false => h.IsListIter i l k
def Sq (t : Bool) (h : Heap) (l : Addr) (xs : Array Value) : Prop := match t with
  | true => h.IsTuple l xs
  | false => h.IsList l xs
theorem It.obj {t : Bool} {h : Heap} {i l : Addr} {k : Nat} (x : It t h i l k) : ∃ o, h.get? i = some o ∧ o.data = .fields #[.ref l, .int k 0] := by
  cases t with
  | true => obtain ⟨o, a, _, b⟩ := x; exact ⟨o, a, b⟩
  | false => obtain ⟨o, a, _, b⟩ := x; exact ⟨o, a, b⟩
theorem It.of {t : Bool} {h h' : Heap} {i l : Addr} {k : Nat} (x : It t h i l k) (e : ∀ o, h.get? i = some o → h'.get? i = some o) : It t h' i l k := by
  cases t with
  | true => exact Heap.IsTupleIter.at x e
  | false => exact Heap.IsListIter.at x e
theorem Sq.of {t : Bool} {h h' : Heap} {l : Addr} {xs : Array Value} (x : Sq t h l xs) (e : ∀ o, h.get? l = some o → h'.get? l = some o) : Sq t h' l xs := by
  cases t with
  | true => exact Heap.IsTuple.at x e
  | false => exact Heap.IsList.at x e
abbrev n1 (t : Bool) (h : Heap) (l1 : Addr) : Heap := h.push { cls := .type (cN t), data := .fields #[.ref l1, .int 0 0] }
abbrev n2 (t u : Bool) (h : Heap) (l1 l2 : Addr) : Heap := (n1 t h l1).push { cls := .type (cN u), data := .fields #[.ref l2, .int 0 0] }
abbrev n3 (t u : Bool) (h : Heap) (l1 l2 : Addr) : Heap := (n2 t u h l1 l2).push { cls := .type "tuple", data := .seq #[.ref h.objs.size, .ref (n1 t h l1).objs.size] }
abbrev n4 (t u : Bool) (h : Heap) (l1 l2 : Addr) : Heap := (n3 t u h l1 l2).push { cls := .type "tuple", data := .seq #[.none, .none] }
abbrev n5 (t u : Bool) (h : Heap) (l1 l2 : Addr) : Heap := (n4 t u h l1 l2).push { cls := .type "zip", data := .fields #[.none, .bool false, .bool false, .ref (n2 t u h l1 l2).objs.size, .ref (n3 t u h l1 l2).objs.size] }
theorem made_tl (l1 l2 : Addr) (xs ys : Array Value) : Meets (Builtin.«zip.__new__» ⟨[.type "zip", .ref l1, .ref l2], []⟩) (fun _ R s => Sq true s.heap l1 xs ∧ Sq false s.heap l2 ys ∧ R (.ok (.ret (.ref (n4 true false s.heap l1 l2).objs.size))) { s with heap := n5 true false s.heap l1 l2 }) :=
  .of_wp fun prog w A R s h => by
    obtain ⟨hp, g, d, tk, os⟩ := s; obtain ⟨a, b, h⟩ := h
    have hsub := sub_zip
    have A1 : Heap.IsTuple (Shared.heap ⟨hp, g, d, tk, os⟩) l1 xs := a
    have A2 : Heap.IsList (Shared.heap ⟨hp.push { cls := .type "tuple_iterator", data := .fields #[.ref l1, .int 0 0] }, g, d, tk, os⟩) l2 ys := Heap.IsList.push b _
    wp_walk using wpAny_pyIter_tuple A1, wpAny_pyIter_list A2
    exact ⟨_, rfl, h⟩
theorem made_lt (l1 l2 : Addr) (xs ys : Array Value) : Meets (Builtin.«zip.__new__» ⟨[.type "zip", .ref l1, .ref l2], []⟩) (fun _ R s => Sq false s.heap l1 xs ∧ Sq true s.heap l2 ys ∧ R (.ok (.ret (.ref (n4 false true s.heap l1 l2).objs.size))) { s with heap := n5 false true s.heap l1 l2 }) :=
  .of_wp fun prog w A R s h => by
    obtain ⟨hp, g, d, tk, os⟩ := s; obtain ⟨a, b, h⟩ := h
    have hsub := sub_zip
    have A1 : Heap.IsList (Shared.heap ⟨hp, g, d, tk, os⟩) l1 xs := a
    have A2 : Heap.IsTuple (Shared.heap ⟨hp.push { cls := .type "list_iterator", data := .fields #[.ref l1, .int 0 0] }, g, d, tk, os⟩) l2 ys := Heap.IsTuple.push b _
    wp_walk using wpAny_pyIter_list A1, wpAny_pyIter_tuple A2
    exact ⟨_, rfl, h⟩
theorem made (t u : Bool) (l1 l2 : Addr) (xs ys : Array Value) (hne : t ≠ u) : Meets (Builtin.«zip.__new__» ⟨[.type "zip", .ref l1, .ref l2], []⟩) (fun _ R s => Sq t s.heap l1 xs ∧ Sq u s.heap l2 ys ∧ R (.ok (.ret (.ref (n4 t u s.heap l1 l2).objs.size))) { s with heap := n5 t u s.heap l1 l2 }) := by
  cases t <;> cases u
  · exact absurd rfl hne
  · exact made_lt l1 l2 xs ys
  · exact made_tl l1 l2 xs ys
  · exact absurd rfl hne
theorem It.fresh {t : Bool} {h : Heap} {i l : Addr} (e : h.get? i = some { cls := .type (cN t), data := .fields #[.ref l, .int 0 0] }) : It t h i l 0 := by
  cases t with
  | true => exact ⟨_, e, rfl, rfl⟩
  | false => exact ⟨_, e, rfl, rfl⟩
end ZM
namespace Pv
open PySem PySem.Spec PyProof.Rows L2 ZM
end Pv
namespace Pv
open PySem PySem.Spec PyProof.Rows L2 ZM
end Pv
namespace Pv
open PySem PySem.Spec L2
end Pv
namespace Pv
open PySem PySem.Spec L2 PyProof.Rows
end Pv
namespace Pv
open PySem PySem.Spec L2
def wJs : List WE → Str → Envp → Sto → (Str → Sto → Prop) → Prop
  | [], acc, _, st, Q => Q acc st
  | w :: ws, acc, env, st, Q => w env st fun x st1 => ∃ y : Str, x = .str y ∧ (acc ++ y).length ≤ sizeLine ∧ wJs ws (acc ++ y) env st1 Q
/-- the parts: texts as they stand, and what is put between -/
def tplW : List (Option Str) → List WE → List WE
  | [], _ => []
  | some s :: r, ws => wC (.str s) :: tplW r ws
  | none :: r, w :: ws => w :: tplW r ws
  | none :: r, [] => tplW r []
def wFs2 (t : List (Option Str)) (a b : WE) : WE := fun env st Q => wJs (tplW t [a, b]) Str.empty env st fun s st1 => Q (.str s) st1
/-- {e} of a text -/
def wFmt (w : WE) : WE := fun env st Q => w env st fun x st1 => ∃ y : Str, x = .str y ∧ y.length ≤ sizeLine ∧ Q (.str y) st1
section
variable {X : Cx} {e : Expr} {w : WE} {pos : Pos}
inductive DJ (X : Cx) : List Expr → List WE → Prop where
  | nil : DJ X [] []
  | cons {e : Expr} {w : WE} {es : List Expr} {ws : List WE} (h : DE X e w) (r : DJ X es ws) : DJ X (e :: es) (w :: ws)
theorem dj_run {es : List Expr} {ws : List WE} (D : DJ X es ws) : ∃ ts : List L2.TE, PJ X es ts ∧ ∀ {ro fr : List Addr} {σ : L2.St} {H : Hp} {env : Envp} {st : Sto} {acc : Str} {Q : Str → Sto → Prop} {R : Str → Hp → Prop}, RepEnv X.K ro fr H env σ → RepS X.K ro fr H st → wJs ws acc env st Q →
    (∀ s H' ro' st', Ext ro H ro' H' → RepS X.K ro' fr H' st' → Q s st' → R s H') → tJs ts acc σ H R := by
  induction D with
  | nil => exact ⟨[], .nil, fun E S h k => k _ _ _ _ .refl S h⟩
  | @cons e w es ws hd _ ih =>
    obtain ⟨ts, h1, h2⟩ := ih
    refine ⟨tW X e :: ts, .cons (pe_W X e) h1, fun {ro fr σ H env st acc Q R} E S h k => ?_⟩
    refine tW.mono (hd _ _ _ _ _ _ _ E S h) fun v H1 ⟨ro1, x, st1, e1, S1, r1, y, hx, hl, q⟩ => ?_
    subst hx
    cases r1
    exact ⟨y, rfl, hl, h2 (E.ext e1) S1 q fun s H' ro' st' e2 S2 q2 => k s H' ro' st' (e1.trans e2) S2 q2⟩
theorem d_fs2 {t : List (Option Str)} {v1 v2 : Expr} {rest : List Expr} {a b : WE} (h : DJ X (v1 :: v2 :: rest) (tplW t [a, b])) : DE X (.JoinedStr (v1 :: v2 :: rest) pos) (wFs2 t a b) := by
  obtain ⟨ts, h1, h2⟩ := dj_run h
  exact ⟨fun ro fr σ H env st Q E S hw => toW (pe_joined h1) (h2 E S hw fun s H' ro' st' e1 S1 q => ⟨ro', _, st', e1, S1, .str s, q⟩)⟩
end
end Pv
namespace Pv
open PySem PySem.Spec L2
end Pv
namespace Pv
open PySem PySem.Spec L2
mutual
def tl : PyData → Nat
  | .none => 4
  | .bool _ => 5
  | .int i => (toString i).length
  | .str x => 10 * x.length + 2
  | .list xs | .tuple xs => 3 + tls xs
  | .dict _ => 0
def tls : List PyData → Nat
  | [] => 0
  | x :: xs => tl x + 2 + tls xs
end
theorem textFrom_le : ∀ (ts : List Str) (k : Nat) (acc : Str), (textFrom k acc ts).length ≤ acc.length + (ts.map fun t => t.length + 2).sum
  | [], k, acc => Nat.le_refl _
  | t :: r, k, acc => by
    have ih := textFrom_le r (k + 1) (acc ++ (if k > 0 then ", " else "" : String) ++ t)
    have e : (acc ++ (if k > 0 then ", " else "" : String) ++ t).length = acc.length + (if k > 0 then 2 else 0) + t.length := by
      rw [strLen_append, strLen_append]
      congr 1
      congr 1
      split <;> rfl
    have e2 : (if k > 0 then 2 else 0 : Nat) ≤ 2 := by split <;> omega
    have e3 : (textFrom k acc (t :: r)).length = (textFrom (k + 1) (acc ++ (if k > 0 then ", " else "" : String) ++ t) r).length := rfl
    rw [e] at ih
    rw [List.map_cons, List.sum_cons, e3]
    omega
theorem piled_sum : ∀ ts : List Str, piled ts = (ts.map fun t => t.length + 2).sum
  | [] => rfl
  | t :: r => by
    rw [List.map_cons, List.sum_cons, ← piled_sum r]
    simp [piled]
theorem tupleText_le (ts : List Str) : (tupleText ts).length ≤ 3 + (ts.map fun t => t.length + 2).sum := by
  unfold tupleText
  rw [strLen_append, strLen_append]
  have e1 : (("(" : Str)).length = 1 := rfl
  have e2 : ((if ts.length == 1 then ",)" else ")" : String) : Str).length ≤ 2 := by split <;> decide
  by_cases h : ts = []
  · subst h
    have e3 : (Str.join ", " ([] : List Str)).length = 0 := rfl
    omega
  · have := join_length_add ts h
    rw [piled_sum] at this
    omega
mutual
theorem shown_le : ∀ d : PyData, d.canLay0 = true → d.shown.length ≤ tl d
  | .none, _ => by decide
  | .bool b, _ => by cases b <;> decide
  | .int i, _ => by simp only [PyData.shown, tl, ofString_length]; exact Nat.le_refl _
  | .str x, h => by
    simp only [PyData.shown, tl]
    refine StrLaws.reprText_len x fun c hc => ?_
    have h2 : PyData.strOk x = true := h
    have h3 := Array.all_eq_true_iff_forall_mem.mp h2 c (Array.mem_toList_iff.mp hc)
    have h4 : c < 0x110000 := by simpa using h3
    have e : (16 : Nat) ^ 8 = 4294967296 := by decide
    omega
  | .list xs, h => by
    simp only [PyData.shown, tl]
    have h1 := shownAll_le xs (by simpa only [PyData.canLay0] using h)
    have h2 := textFrom_le (PyData.shownAll xs) 0 "["
    unfold listText
    rw [strLen_append]
    have e1 : (("[" : String) : Str).length = 1 := rfl
    have e2 : (("]" : String) : Str).length = 1 := rfl
    omega
  | .tuple xs, h => by
    simp only [PyData.shown, tl]
    have h1 := shownAll_le xs (by simpa only [PyData.canLay0] using h)
    have h2 := tupleText_le (PyData.shownAll xs)
    omega
  | .dict _, h => by simp [PyData.canLay0] at h
theorem shownAll_le : ∀ ds : List PyData, PyData.canLayAll0 ds = true → ((PyData.shownAll ds).map fun t => t.length + 2).sum ≤ tls ds
  | [], _ => Nat.le_refl _
  | d :: ds, h => by
    simp only [PyData.canLayAll0, Bool.and_eq_true] at h
    have h1 := shown_le d h.1
    have h2 := shownAll_le ds h.2
    simp only [PyData.shownAll, List.map_cons, List.sum_cons, tls]
    omega
end
inductive Trm where
  | u (s : Str) | f (s : Str) (as : List Trm)
mutual
def Trm.p : Trm → PV
  | .u s => .str s
  | .f s as => .tup (.str s :: Trm.ps as)
def Trm.ps : List Trm → List PV
  | [] => []
  | a :: as => a.p :: Trm.ps as
end
def Trm.args : Trm → List Trm
  | .u _ => []
  | .f _ as => as
theorem Trm.ps_map : ∀ as : List Trm, Trm.ps as = as.map Trm.p
  | [] => rfl
  | a :: as => by rw [Trm.ps, Trm.ps_map as]; rfl
def GoodS (s : Str) : Prop := 1 ≤ s.length ∧ s.length ≤ 6 ∧ PyData.strOk s = true
def Trm.ok : Nat → Trm → Prop
  | _, .u s => GoodS s
  | 0, .f _ _ => False
  | d + 1, .f s as => GoodS s ∧ as.length ≤ 3 ∧ ∀ a ∈ as, Trm.ok d a
theorem Trm.ok_u {d : Nat} {s : Str} : Trm.ok d (.u s) ↔ GoodS s := by cases d <;> exact Iff.rfl
mutual
theorem Trm.isD : ∀ t : Trm, Pv.isD t.p = true
  | .u s => rfl
  | .f s as => by simp only [Trm.p, Pv.isD, Pv.isDs, Bool.true_and]; exact Trm.isDs as
theorem Trm.isDs : ∀ as : List Trm, Pv.isDs (Trm.ps as) = true
  | [] => rfl
  | a :: as => by simp only [Trm.ps, Pv.isDs, Trm.isD a, Trm.isDs as, Bool.and_self]
end
theorem Trm.datS (st : Sto) (t : Trm) : Pv.datS st t.p = some (dat t.p) := by
  cases t with
  | u s => rfl
  | f s as =>
    have := Trm.isD (.f s as)
    simp only [Trm.p] at this ⊢
    simp only [Pv.datS, this, if_true]
theorem dats_map : ∀ xs : List PV, dats xs = xs.map dat
  | [] => rfl
  | x :: xs => by rw [dats, dats_map xs]; rfl
theorem canLayAll_map {α : Type} (f : α → PyData) : ∀ xs : List α, (∀ x ∈ xs, (f x).canLay0 = true) → PyData.canLayAll0 (xs.map f) = true
  | [], _ => rfl
  | x :: xs, h => by
    rw [List.map_cons, PyData.canLayAll0, h x List.mem_cons_self, canLayAll_map f xs fun y m => h y (List.mem_cons_of_mem _ m)]; rfl
theorem depthAll_map {α : Type} (f : α → PyData) (n : Nat) : ∀ xs : List α, (∀ x ∈ xs, (f x).depth ≤ n) → PyData.depthAll (xs.map f) ≤ n
  | [], _ => Nat.zero_le _
  | x :: xs, h => by
    rw [List.map_cons, PyData.depthAll]
    exact Nat.max_le.mpr ⟨h x List.mem_cons_self, depthAll_map f n xs fun y m => h y (List.mem_cons_of_mem _ m)⟩
theorem showableAll_map {α : Type} (f : α → PyData) : ∀ xs : List α, (∀ x ∈ xs, (f x).showable = true) → PyData.showableAll (xs.map f) = true
  | [], _ => rfl
  | x :: xs, h => by
    rw [List.map_cons, PyData.showableAll, h x List.mem_cons_self, showableAll_map f xs fun y m => h y (List.mem_cons_of_mem _ m)]; rfl
theorem tls_map {α : Type} (f : α → PyData) (n : Nat) : ∀ xs : List α, (∀ x ∈ xs, tl (f x) ≤ n) → tls (xs.map f) ≤ (n + 2) * xs.length
  | [], _ => Nat.zero_le _
  | x :: xs, h => by
    rw [List.map_cons, tls]
    have h1 := h x List.mem_cons_self
    have h2 := tls_map f n xs fun y m => h y (List.mem_cons_of_mem _ m)
    rw [List.length_cons, Nat.mul_add]
    omega
/-- data that is laid, shown, and no deeper than d, its text no longer than n -/
structure DOk (d n : Nat) (x : PyData) : Prop where
  lay : x.canLay0 = true
  deep : x.depth ≤ d
  show_ : x.showable = true
  len : tl x ≤ n
theorem DOk.mono {d e n m : Nat} {x : PyData} (h : DOk d n x) (h1 : d ≤ e) (h2 : n ≤ m) : DOk e m x := ⟨h.lay, Nat.le_trans h.deep h1, h.show_, Nat.le_trans h.len h2⟩
theorem DOk.tup {d n k : Nat} {xs : List PyData} (h : ∀ x ∈ xs, DOk d n x) (hk : xs.length ≤ k) : DOk (d + 1) (3 + (n + 2) * k) (.tuple xs) := by
  refine ⟨?_, ?_, ?_, ?_⟩
  · have := canLayAll_map id xs fun x m => (h x m).lay
    simpa only [PyData.canLay0, List.map_id] using this
  · have := depthAll_map id d xs fun x m => (h x m).deep
    simp only [List.map_id] at this
    simp only [PyData.depth]; omega
  · have := showableAll_map id xs fun x m => (h x m).show_
    simpa only [PyData.showable, List.map_id] using this
  · have := tls_map id n xs fun x m => (h x m).len
    simp only [List.map_id] at this
    have h2 : (n + 2) * xs.length ≤ (n + 2) * k := Nat.mul_le_mul_left _ hk
    simp only [tl]; omega
theorem DOk.lst {d n k : Nat} {xs : List PyData} (h : ∀ x ∈ xs, DOk d n x) (hk : xs.length ≤ k) : DOk (d + 1) (3 + (n + 2) * k) (.list xs) := by
  have := DOk.tup h hk
  exact ⟨by simpa only [PyData.canLay0] using this.lay, by simpa only [PyData.depth] using this.deep, by simpa only [PyData.showable] using this.show_, by simpa only [tl] using this.len⟩
theorem DOk.str {s : Str} (h : GoodS s) : DOk 0 62 (.str s) := ⟨h.2.2, Nat.le_refl _, rfl, by simp only [tl]; have := h.2.1; omega⟩
theorem DOk.shaped {d n : Nat} {x : PyData} (h : DOk d n x) (hd : d ≤ 64) : SeqAt.shaped x = true := by
  unfold SeqAt.shaped
  rw [h.lay, decide_eq_true (Nat.le_trans h.deep hd)]; rfl
theorem DOk.shown {d n : Nat} {x : PyData} (h : DOk d n x) (hn : n ≤ sizeLine) : x.shown.length ≤ sizeLine := Nat.le_trans (shown_le x h.lay) (Nat.le_trans h.len hn)
/-- the text's length of a term d deep -/
def tmLen : Nat → Nat
  | 0 => 62
  | d + 1 => 3 + (max 62 (tmLen d) + 2) * 4
theorem tmLen_ge : ∀ d, 62 ≤ tmLen d
  | 0 => Nat.le_refl _
  | d + 1 => by unfold tmLen; omega
theorem Trm.dok : ∀ {d : Nat} {t : Trm}, Trm.ok d t → DOk d (tmLen d) (dat t.p)
  | d, .u s, h => by
    simp only [Trm.p, dat]
    exact (DOk.str (Trm.ok_u.mp h)).mono (Nat.zero_le _) (tmLen_ge d)
  | 0, .f _ _, h => h.elim
  | d + 1, .f s as, h => by
    simp only [Trm.p, dat, dats]
    refine DOk.tup (k := 4) (fun x m => ?_) (by rw [dats_map, Trm.ps_map]; simp; exact h.2.1)
    rcases List.mem_cons.mp m with e | m
    · subst e; exact (DOk.str h.1).mono (Nat.zero_le _) (Nat.le_max_left _ _)
    · rw [dats_map, Trm.ps_map, List.map_map] at m
      obtain ⟨a, ha, rfl⟩ := List.mem_map.mp m
      exact (Trm.dok (h.2.2 a ha)).mono (Nat.le_refl _) (Nat.le_max_right _ _)
mutual
theorem Trm.eqv : ∀ a b : Trm, PyData.eqv (dat a.p) (dat b.p) = true ↔ a = b
  | .u s, .u t => by simp only [Trm.p, dat, PyData.eqv, beq_iff_eq, Trm.u.injEq]
  | .u s, .f t bs => by simp [Trm.p, dat, PyData.eqv]
  | .f s as, .u t => by simp [Trm.p, dat, PyData.eqv]
  | .f s as, .f t bs => by
    simp only [Trm.p, dat, dats, PyData.eqv, PyData.eqvAll, Bool.and_eq_true, beq_iff_eq, Trm.f.injEq]
    rw [Trm.eqvs as bs]
theorem Trm.eqvs : ∀ as bs : List Trm, PyData.eqvAll (dats (Trm.ps as)) (dats (Trm.ps bs)) = true ↔ as = bs
  | [], [] => by simp [Trm.ps, dats, PyData.eqvAll]
  | [], b :: bs => by simp [Trm.ps, dats, PyData.eqvAll]
  | a :: as, [] => by simp [Trm.ps, dats, PyData.eqvAll]
  | a :: as, b :: bs => by
    simp only [Trm.ps, dats, PyData.eqvAll, Bool.and_eq_true, List.cons.injEq]
    rw [Trm.eqv a b, Trm.eqvs as bs]
end
end Pv
namespace Pv
open PySem PySem.Spec L2
/-- the store has grown, what stood outside ds stands -/
def Gr (ds : List Nat) (st st' : Sto) : Prop := st.length ≤ st'.length ∧ ∀ (i : Nat) c, i ∉ ds → st[i]? = some c → st'[i]? = some c
theorem Gr.refl {ds : List Nat} {st : Sto} : Gr ds st st := ⟨Nat.le_refl _, fun _ _ _ h => h⟩
theorem Gr.trans {ds : List Nat} {a b c : Sto} (h : Gr ds a b) (g : Gr ds b c) : Gr ds a c := ⟨Nat.le_trans h.1 g.1, fun i x n e => g.2 i x n (h.2 i x n e)⟩
theorem Gr.sub {ds es : List Nat} {a b : Sto} (h : Gr ds a b) (hs : ∀ i ∈ ds, i ∈ es) : Gr es a b := ⟨h.1, fun i x n e => h.2 i x (fun m => n (hs i m)) e⟩
theorem Gr.nil {es : List Nat} {a b : Sto} (h : Gr [] a b) : Gr es a b := h.sub (by simp)
theorem Gr.new {ds : List Nat} {st : Sto} {cs : List Cell} : Gr ds st (st ++ cs) := ⟨by simp, fun i c _ h => by rw [List.getElem?_append_left (List.getElem?_eq_some_iff.mp h).1]; exact h⟩
theorem Gr.set {ds : List Nat} {st : Sto} {n : Nat} {c : Cell} (h : n ∈ ds) : Gr ds st (st.set n c) := ⟨by simp, fun i x m e => by rw [List.getElem?_set_ne (show n ≠ i from fun z => m (by rw [← z]; exact h))]; exact e⟩
/-- a cell made later is none of these -/
theorem Gr.drop {ds : List Nat} {st st' : Sto} {n : Nat} (h : Gr (n :: ds) st st') (hn : st.length ≤ n) : Gr ds st st' := ⟨h.1, fun i x m e => h.2 i x (by
  have := (List.getElem?_eq_some_iff.mp e).1
  simp only [List.mem_cons, not_or]; exact ⟨by omega, m⟩) e⟩
theorem set_at {st : Sto} {n : Nat} {c d : Cell} (h : st[n]? = some d) : (st.set n c)[n]? = some c := List.getElem?_set_self (List.getElem?_eq_some_iff.mp h).1
theorem new_at {st : Sto} {c : Cell} : (st ++ [c])[st.length]? = some c := by simp
def DeckOk (st : Sto) (n : Nat) : Prop := ∃ a b c : Int, st[n]? = some (.lst [.int a, .int b, .int c])
theorem DeckOk.gr {ds : List Nat} {st st' : Sto} {n : Nat} (h : DeckOk st n) (g : Gr ds st st') (hn : n ∉ ds) : DeckOk st' n := let ⟨a, b, c, e⟩ := h; ⟨a, b, c, g.2 _ _ hn e⟩
theorem ix_ref {st : Sto} {n : Nat} {ys : List PV} {i : Int} {v : PV} {Q : PV → Sto → Prop} (hn : st[n]? = some (.lst ys)) (h : atI ys i = some v) (q : Q v st) : ixR (.ref n) (.int i) st Q :=
  ⟨i, rfl, ys, v, by simp only [seqP, lstP, lstS, hn], h, q⟩
theorem ix_lst {st : Sto} {ys : List PV} {i : Int} {v : PV} {Q : PV → Sto → Prop} (h : atI ys i = some v) (q : Q v st) : ixR (.lst ys) (.int i) st Q := ⟨i, rfl, ys, v, rfl, h, q⟩
theorem ix_tup {st : Sto} {ys : List PV} {i : Int} {v : PV} {Q : PV → Sto → Prop} (h : atI ys i = some v) (q : Q v st) : ixR (.tup ys) (.int i) st Q := ⟨i, rfl, ys, v, rfl, h, q⟩
theorem atI_of {α : Type} {xs : List α} {i : Int} (h0 : 0 ≤ i) (h : i < xs.length) : ∃ v, atI xs i = some v ∧ v ∈ xs := by
  obtain ⟨k, rfl⟩ := Int.eq_ofNat_of_zero_le h0
  have hk : k < xs.length := by omega
  exact ⟨xs[k], atI_nat (List.getElem?_eq_getElem hk), List.getElem_mem _⟩
end Pv
namespace Pv
open PySem PySem.Spec L2
section
variable {st : Sto} {Q : PV → Sto → Prop} {i j : Int} {a b : Str} {xs ys : List PV} {n : Nat} {m k : Bool} {x y : PV}
theorem r_add : addR m (.int i) (.int j) st Q ↔ Q (.int (i + j)) st := Iff.rfl
theorem r_adds : addR m (.str a) (.str b) st Q ↔ a.length + b.length ≤ sizeLine ∧ Q (.str (a ++ b)) st := Iff.rfl
theorem r_addt : addR m (.tup xs) (.tup ys) st Q ↔ xs.length + ys.length ≤ sizeLine ∧ Q (.tup (xs ++ ys)) st := Iff.rfl
theorem r_addl : addR m (.lst xs) (.lst ys) st Q ↔ xs.length + ys.length ≤ sizeLine ∧ newL m (xs ++ ys) st Q := by
  show (∃ xs' ys', lstS st (.lst xs) = some xs' ∧ lstS st (.lst ys) = some ys' ∧ xs'.length + ys'.length ≤ sizeLine ∧ newL m (xs' ++ ys') st Q) ↔ _
  simp only [lstS, Option.some.injEq]
  exact ⟨fun ⟨_, _, rfl, rfl, h⟩ => h, fun h => ⟨_, _, rfl, rfl, h⟩⟩
theorem r_sub : subR (.int i) (.int j) st Q ↔ Q (.int (i - j)) st := ⟨fun ⟨_, _, e, f, h⟩ => by cases e; cases f; exact h, fun h => ⟨_, _, rfl, rfl, h⟩⟩
theorem r_mul : mulR (.int i) (.int j) st Q ↔ ((-(2 ^ 64) < i ∧ i < 2 ^ 64) ∨ (-(2 ^ 64) < j ∧ j < 2 ^ 64)) ∧ Q (.int (i * j)) st := Iff.rfl
theorem r_fdiv : fdivR (.int i) (.int j) st Q ↔ (0 < j ∧ j < 1073741824) ∧ Q (.int (i / j)) st := ⟨fun ⟨_, _, e, f, h⟩ => by cases e; cases f; exact h, fun h => ⟨_, _, rfl, rfl, h⟩⟩
theorem r_mod : modR (.int i) (.int j) st Q ↔ 0 < j ∧ Q (.int (i % j)) st := ⟨fun ⟨_, _, e, f, h⟩ => by cases e; cases f; exact h, fun h => ⟨_, _, rfl, rfl, h⟩⟩
theorem r_pow : powR (.int i) (.int j) st Q ↔ (0 ≤ j ∧ j ≤ 1000000 ∧ i.natAbs < 2 ^ 64) ∧ Q (.int (i ^ j.toNat)) st := ⟨fun ⟨_, _, e, f, h⟩ => by cases e; cases f; exact h, fun h => ⟨_, _, rfl, rfl, h⟩⟩
theorem r_lt : ltR (.int i) (.int j) st Q ↔ Q (.bl (decide (i < j))) st := Iff.rfl
theorem r_le : leR (.int i) (.int j) st Q ↔ Q (.bl (decide (i ≤ j))) st := Iff.rfl
theorem r_gt : gtR (.int i) (.int j) st Q ↔ Q (.bl (decide (j < i))) st := Iff.rfl
theorem r_ge : geR (.int i) (.int j) st Q ↔ Q (.bl (decide (j ≤ i))) st := Iff.rfl
theorem r_eqi : eqA (.int i) (.int j) st Q ↔ Q (.bl (i == j)) st :=
  ⟨fun ⟨_, _, e, f, _, _, h⟩ => by cases e; cases f; exact h, fun h => ⟨_, _, rfl, rfl, rfl, rfl, h⟩⟩
theorem r_nei : neA (.int i) (.int j) st Q ↔ Q (.bl (i != j)) st :=
  ⟨fun ⟨_, _, e, f, _, _, h⟩ => by cases e; cases f; exact h, fun h => ⟨_, _, rfl, rfl, rfl, rfl, h⟩⟩
theorem r_eqs : eqA (.str a) (.str b) st Q ↔ Q (.bl (a == b)) st := Iff.rfl
theorem r_nes : neA (.str a) (.str b) st Q ↔ Q (.bl (a != b)) st := Iff.rfl
theorem r_inti : intR [.int i] st Q ↔ Q (.int i) st := ⟨fun ⟨_, e, h⟩ => by cases e; exact h, fun h => ⟨_, rfl, h⟩⟩
theorem r_intb : intR [.bl k] st Q ↔ Q (.int (if k then 1 else 0)) st := ⟨fun ⟨_, e, h⟩ => by cases e; exact h, fun h => ⟨_, rfl, h⟩⟩
theorem r_ixr : ixR (.ref n) (.int i) st Q ↔ ∃ ys v, st[n]? = some (.lst ys) ∧ atI ys i = some v ∧ Q v st := by
  constructor
  · rintro ⟨i', e, ys, v, h, h2, q⟩
    cases e
    simp only [seqP, lstP, lstS] at h
    split at h
    · cases h; exact ⟨_, _, by assumption, h2, q⟩
    · cases h
  · rintro ⟨ys, v, h, h2, q⟩; exact ix_ref h h2 q
theorem r_ixl : ixR (.lst ys) (.int i) st Q ↔ ∃ v, atI ys i = some v ∧ Q v st := ⟨fun ⟨_, e, _, v, h, h2, q⟩ => by cases e; cases h; exact ⟨v, h2, q⟩, fun ⟨v, h, q⟩ => ix_lst h q⟩
theorem r_ixt : ixR (.tup ys) (.int i) st Q ↔ ∃ v, atI ys i = some v ∧ Q v st := ⟨fun ⟨_, e, _, v, h, h2, q⟩ => by cases e; cases h; exact ⟨v, h2, q⟩, fun ⟨v, h, q⟩ => ix_tup h q⟩
theorem r_ixs : ixR (.str a) (.int i) st Q ↔ ∃ c, a.length ≤ sizeLine ∧ atI a.cps.toList i = some c ∧ Q (.str ⟨#[c]⟩) st := ⟨fun ⟨_, e, h⟩ => by cases e; exact h, fun h => ⟨_, rfl, h⟩⟩
theorem atI_0 {α : Type} {x : α} {xs : List α} : atI (x :: xs) 0 = some x := atI_nat rfl
theorem atI_1 {α : Type} {x y : α} {xs : List α} : atI (x :: y :: xs) 1 = some y := atI_nat rfl
theorem atI_2 {α : Type} {x y z : α} {xs : List α} : atI (x :: y :: z :: xs) 2 = some z := atI_nat rfl
theorem ixN_nat {n k : Nat} (h : k < n) : ixN n (k : Int) = some k := by
  unfold ixN; simp; omega
theorem r_newt : newL true xs st Q ↔ Q (.ref st.length) (st ++ [.lst xs]) := Iff.rfl
theorem r_newf : newL false xs st Q ↔ Q (.lst xs) st := Iff.rfl
theorem r_len (h : seqP st x = some ys) (q : Q (.int ys.length) st) : lenR [x] st Q := by
  refine ⟨x, rfl, ?_⟩
  cases x with
  | str z => cases h
  | _ => exact ⟨ys, h, q⟩
end
inductive All2 (P : PV → PV → Prop) : List PV → List PV → Prop
  | nil : All2 P [] []
  | cons {x y xs ys} : P x y → All2 P xs ys → All2 P (x :: xs) (y :: ys)
theorem All2.imp {P P' : PV → PV → Prop} (hp : ∀ x y, P x y → P' x y) {xs ys : List PV} (h : All2 P xs ys) : All2 P' xs ys := by
  induction h with
  | nil => exact .nil
  | cons p _ ih => exact .cons (hp _ _ p) ih
theorem All2.len {P : PV → PV → Prop} {xs ys : List PV} (h : All2 P xs ys) : xs.length = ys.length := by
  induction h with
  | nil => rfl
  | cons _ _ ih => simp [ih]
/-- a comprehension with one name and no condition -/
theorem lc_map {gd : Sto → Prop} {i : Nat} {te : WE} {env : Envp} (ds : List Nat) (I : Sto → Prop) (P : PV → PV → Prop) (hg : ∀ st, I st → gd st) : ∀ (items acc : List PV) (st : Sto) (kk : List PV → Sto → Prop),
    (∀ x ∈ items, ∀ st Q, I st → (∀ y st', P x y → I st' → Gr ds st st' → Q y st') → te (env.set i (some x)) st Q) → I st → acc.length + items.length ≤ sizeLine →
    (∀ ys st', All2 P items ys → I st' → Gr ds st st' → kk (acc ++ ys) st') → lcGo gd (gNm i) tYesP te env items acc st kk
  | [], acc, st, kk, _, hI, _, k => ⟨hg st hI, by simpa using k [] st .nil hI .refl⟩
  | x :: xs, acc, st, kk, h, hI, hl, k => by
    refine ⟨hg st hI, ?_⟩
    simp only [gNm, tYesP, if_true]
    simp only [List.length_cons] at hl
    refine h x List.mem_cons_self st _ hI fun y st' p hI' g => ⟨by omega, ?_⟩
    refine lc_map ds I P hg xs (acc ++ [y]) st' kk (fun z m => h z (List.mem_cons_of_mem _ m)) hI' (by simp; omega) fun ys st2 a hI2 g2 => ?_
    have := k (y :: ys) st2 (.cons p a) hI2 (g.trans g2)
    simpa using this
theorem str_app (a b : Str) : a ++ b = ⟨a.cps ++ b.cps⟩ := rfl
theorem strOk_app {a b : Str} (ha : PyData.strOk a = true) (hb : PyData.strOk b = true) : PyData.strOk (a ++ b) = true := by
  unfold PyData.strOk at *
  rw [str_app, Array.all_append, ha, hb]; rfl
theorem len_app (a b : Str) : (a ++ b).length = a.length + b.length := strLen_append a b
theorem txt_join (a : Str) (ss : List Str) : Txt.join a ss = Str.join a ss := PySem.StrLaws.glued_eq_join a ss
theorem cut_lo (z : Str) (k : Nat) : (cutS z (some (k : Int)) none).length = z.length - k := by
  unfold cutS
  rw [HT.sIx_none, HT.sIx_nat]
  show (List.toArray _).size = _
  simp [Str.length]
  omega
variable {st : Sto} {Q : PV → Sto → Prop} {i j : Int} in
theorem r_min : min2R [.int i, .int j] st Q ↔ Q (.int (if j < i then j else i)) st := ⟨fun ⟨_, _, e, h⟩ => by cases e; exact h, fun h => ⟨_, _, rfl, h⟩⟩
variable {st : Sto} {Q : PV → Sto → Prop} {i j : Int} in
theorem r_max : max2R [.int i, .int j] st Q ↔ Q (.int (if j > i then j else i)) st := ⟨fun ⟨_, _, e, h⟩ => by cases e; exact h, fun h => ⟨_, _, rfl, h⟩⟩
variable {st : Sto} {Q : PV → Sto → Prop} in
theorem r_lens {a : Str} : lenR [.str a] st Q ↔ a.length ≤ sizeLine ∧ Q (.int a.length) st := ⟨fun ⟨_, e, h⟩ => by cases e; exact h, fun h => ⟨_, rfl, h⟩⟩
theorem rgP_len (lo : Int) (n : Nat) : (rgP lo n).length = n := by simp [rgP]
theorem rgP_mem {lo : Int} {n : Nat} {x : PV} (h : x ∈ rgP lo n) : ∃ k : Nat, k < n ∧ x = .int (lo + k) := by
  unfold rgP at h
  obtain ⟨k, hk, rfl⟩ := List.mem_map.mp h
  exact ⟨k, List.mem_range.mp hk, rfl⟩
end Pv
namespace Pv
open PySem PySem.Spec L2
inductive OpN where
  | add (m : Bool) | sub | mul | fdiv | mod | pow | lt | le | gt | ge | eq | ne | inL | notIn | inS | isN | notN | ix | dget | iadd | mulT | inK | notInK | ext (r : OpP)
def OpN.den : OpN → OpP
  | .add m => addR m | .sub => subR | .mul => mulR | .fdiv => fdivR | .mod => modR | .pow => powR
  | .lt => ltR | .le => leR | .gt => gtR | .ge => geR | .eq => eqA | .ne => neA | .inL => inA | .notIn => notInA | .inS => inSR
  | .isN => isNR | .notN => notNR | .ix => ixR | .dget => dgetR | .iadd => iaddR | .mulT => mulA | .inK => inKR | .notInK => notInKR | .ext r => r
inductive CaN where
  | len | tuple | list (m : Bool) | sum | all | any | int | max2 | min2 | repr | zipL (m : Bool) | rev (m : Bool) | sortSet (m : Bool) | sort (m : Bool) | dict (m : Bool) | dictT | sortD (m : Bool) | ext (r : CaP)
def CaN.den : CaN → CaP
  | .len => lenR | .tuple => tupleR | .list m => listR m | .sum => sumR | .all => allR | .any => anyR | .int => intR | .max2 => max2R | .min2 => min2R | .repr => reprR | .zipL m => zipLR m | .rev m => revA m | .sortSet m => sortSetR m | .sort m => sortR m | .dict m => dictR m | .dictT => dictTR | .sortD m => sortDR m | .ext r => r
inductive MtN where
  | append | extend | pop | join | upper | count | dgetm | setd | upd | popI | sIdx | lIdx | ext (r : MtP)
def MtN.den : MtN → MtP
  | .append => appendR | .extend => extendR | .pop => popR | .join => joinR | .upper => upperR | .count => countR | .dgetm => dgetmR | .setd => setdR | .upd => updR | .popI => popIR | .sIdx => sIdxR | .lIdx => lIdxR | .ext r => r
mutual
inductive QE where
  | var (i : Nat) | cst (v : PV) | op (o : OpN) (a b : QE) | tup (as : QA) | lst (m : Bool) (as : QA) | ite (t : QT) (a b : QE)
  | andV (a b : QE) | orV (a b : QE) | notV (a : QE) | neg (a : QE) | chain (o o' : OpN) (a b c : QE)
  | call (n f : Nat) (as : QA) | ca (r : CaN) (as : QA) | isi (T : String) (a : QE) | sl (m : Bool) (a : QE) (lo hi : QO)
  | mt (T : String) (r : MtN) (o : QE) (as : QA) | lc (m : Bool) (it : QI) (g : QG) (t : QT) (e : QE) (own : List Nat)
  | disp (m : Bool) (ps : QP) | dict0 (m : Bool)
  | ss (m : Bool) (it : QI) (g : QG) (t : QT) (e : QE) (own : List Nat)
  | tupRg (a : QE) | f1 (F : WE → WE) (a : QE) | f2 (F : WE → WE → WE) (a b : QE) | cx (F : Spc → WE → WE) (g : Nat) (a : QE)
  | dc (m : Bool) (it : QI) (g : QG) (t : QT) (k e : QE) (own : List Nat)
  | lc2 (m : Bool) (it : QI) (g : QG) (t : QT) (it1 : QI) (g1 : QG) (t1 : QT) (e : QE) (own own1 : List Nat)
inductive QA where
  | nil | cons (e : QE) (r : QA)
inductive QP where
  | nil | cons (k v : QE) (r : QP)
inductive QT where
  | tru (e : QE) | val (e : QE) | and (a b : QT) | or (a b : QT) | not (a : QT) | chain (o o' : OpN) (a b c : QE) | yes
inductive QO where
  | no | so (e : QE)
inductive QI where
  | val (e : QE) | rg1 (as : QA) | rg2 (as : QA) | en (as : QA) | zip (as : QA) | f1 (F : WA → WI) (as : QA)
inductive QG where
  | nm (i : Nat) | tp (n : Nat) (gs : QL) | ul (n : Nat) (gs : QL) | ix (o i : QE) | dk (o i : QE) | star (m : Bool) (n i : Nat) (gs : QL)
inductive QL where
  | nil | cons (g : QG) (r : QL)
end
mutual
def QE.den (φ : Nat → Spc) : QE → WE
  | .var i => wVar i
  | .cst v => wC v
  | .op o a b => wOp o.den (a.den φ) (b.den φ)
  | .tup as => wTup (as.den φ)
  | .lst m as => wLst m (as.den φ)
  | .ite t a b => wIf (t.den φ) (a.den φ) (b.den φ)
  | .andV a b => wAndT (a.den φ) (b.den φ)
  | .orV a b => wOrT (a.den φ) (b.den φ)
  | .notV a => wNotT (a.den φ)
  | .neg a => wNeg (a.den φ)
  | .chain o o' a b c => wChain o.den o'.den (a.den φ) (b.den φ) (c.den φ)
  | .call n f as => wCall n (φ f) (as.den φ)
  | .ca r as => wCa r.den (as.den φ)
  | .isi T a => wIsi T (a.den φ)
  | .sl m a lo hi => wSl m (a.den φ) (lo.den φ) (hi.den φ)
  | .mt T r o as => wM T r.den (o.den φ) (as.den φ)
  | .lc m it g t e own => wLc m (it.den φ) (g.den φ) (t.den φ) (e.den φ) own
  | .disp m ps => wDisp m (ps.den φ)
  | .dict0 m => fun _ st Q => newD m [] [] st Q
  | .ss m it g t e own => wSs m (it.den φ) (g.den φ) (t.den φ) (e.den φ) own
  | .tupRg a => wTupRg (a.den φ)
  | .f1 F a => F (a.den φ)
  | .f2 F a b => F (a.den φ) (b.den φ)
  | .cx F g a => F (φ g) (a.den φ)
  | .dc m it g t k e own => wDc m (it.den φ) (g.den φ) (t.den φ) (k.den φ) (e.den φ) own
  | .lc2 m it g t it1 g1 t1 e own own1 => wLc2 m (it.den φ) (g.den φ) (t.den φ) (it1.den φ) (g1.den φ) (t1.den φ) (e.den φ) own own1
def QA.den (φ : Nat → Spc) : QA → WA
  | .nil => wNil
  | .cons e r => wCons (e.den φ) (r.den φ)
def QP.den (φ : Nat → Spc) : QP → List (WE × WE)
  | .nil => []
  | .cons k v r => (k.den φ, v.den φ) :: r.den φ
def QT.den (φ : Nat → Spc) : QT → WT
  | .tru e => tTru (e.den φ)
  | .val e => tValP (e.den φ)
  | .and a b => tAndP (a.den φ) (b.den φ)
  | .or a b => tOrP (a.den φ) (b.den φ)
  | .not a => tNotP (a.den φ)
  | .chain o o' a b c => tChainP o.den o'.den (a.den φ) (b.den φ) (c.den φ)
  | .yes => tYesP
def QO.den (φ : Nat → Spc) : QO → WO
  | .no => oNo
  | .so e => oSo (e.den φ)
def QI.den (φ : Nat → Spc) : QI → WI
  | .val e => iVal (e.den φ)
  | .rg1 as => iRg1 (as.den φ)
  | .rg2 as => iRg2 (as.den φ)
  | .en as => iEnP (as.den φ)
  | .zip as => iZipP (as.den φ)
  | .f1 F as => F (as.den φ)
def QG.den (φ : Nat → Spc) : QG → WG
  | .nm i => gNm i
  | .tp n gs => gTp n (gs.den φ)
  | .ul n gs => gUl n (gs.den φ)
  | .ix o i => gIx (o.den φ) (i.den φ)
  | .dk o i => gDk (o.den φ) (i.den φ)
  | .star m n i gs => gStar m n i (gs.den φ)
def QL.den (φ : Nat → Spc) : QL → List PV → Envp → Sto → (Envp → Sto → Prop) → Prop
  | .nil => gNl
  | .cons g r => gCn (g.den φ) (r.den φ)
end
inductive QS where
  | next | seq (a b : QS) | ite (t : QT) (a b : QS) | ret (e : QE) | retN | drop (e : QE) | brk | cnt
  | asg (e : QE) (g : QG) | par (i j : Nat) (as : QA) | for (it : QI) (g : QG) (b : QS) | while (t : QT) (b : QS) | never | tag (i : Nat) (s : QS)
  | x1 (f : WS → WS) (a : QS) | x2 (f : WS → WS → WS) (a b : QS) | xg (f : WE → WG → WS) (e : QE) (g : QG) | xr (f : WE → WS) (e : QE) | xa (f : WA → WS) (as : QA) | xl (f : WE → WG → WT → WE → WS) (e : QE) (g : QG) (t : QT) (e2 : QE) | op (F : (Nat → Spc) → WS)
def QS.den (φ : Nat → Spc) : QS → WS
  | .next => sNext
  | .seq a b => sSeq (a.den φ) (b.den φ)
  | .ite t a b => sIf (t.den φ) (a.den φ) (b.den φ)
  | .ret e => sRet (e.den φ)
  | .retN => sRetN
  | .drop e => sDrop (e.den φ)
  | .brk => sBrk
  | .cnt => sCnt
  | .asg e g => sAsg (e.den φ) (g.den φ)
  | .par i j as => sPar i j (as.den φ)
  | .for it g b => sFor (it.den φ) (g.den φ) (b.den φ)
  | .while t b => sWhile (t.den φ) (b.den φ)
  | .never => sNever
  | .tag _ s => s.den φ
  | .x1 f a => f (a.den φ)
  | .x2 f a b => f (a.den φ) (b.den φ)
  | .xg f e g => f (e.den φ) (g.den φ)
  | .xr f e => f (e.den φ)
  | .xa f as => f (as.den φ)
  | .xl f e g t e2 => f (e.den φ) (g.den φ) (t.den φ) (e2.den φ)
  | .op f => f φ
/-- a def: how many slots, its body -/
structure QF where
  slots : Nat
  body : QS
def startN (n : Nat) (xs : List PV) : Envp := xs.map some ++ List.replicate (n - xs.length) none
/-- what calls tell, where so many levels are left -/
def Sem (P : List QF) : Nat → Nat → Spc
  | 0, _ => fun _ _ _ => False
  | k + 1, f => fun xs st Q => match P[f]? with
    | some F => F.body.den (Sem P k) { nx := fun _ st' => Q .non st', rt := Q } (startN F.slots xs) st
    | none => False
end Pv
namespace Pv
open PySem PySem.Spec L2
/-- what more is known of a whole number: it is a length (and so much more), or below it -/
inductive Sy where
  | no | eq (id : Nat) (off : Int) | lt (id : Nat) (off : Int)
  deriving DecidableEq
inductive Kd where
  | tup | lst | fls | anl
  deriving DecidableEq
inductive Ty where
  | any | int (lo hi : Option Int) (s : Sy) | bl (f t : Bool) | non | str (lo hi : Nat) (id : Option Nat) | cst (s : Str)
  | tup (ts : List Ty) | lst (ts : List Ty) | seq (k : Kd) (t : Ty) (lo hi : Nat) (id : Option Nat)
  | dk (ks : List Key) (ts : List Ty) | cell (k : Nat) | usr (u : Nat) | or (a b : Ty) | dat (d n : Nat) | raw
def Kd.is : Kd → PV → List PV → Prop
  | .tup, v, xs => v = .tup xs
  | .lst, v, xs => v = .lst xs
  | .fls, v, xs => v = .fls xs
  | .anl, v, xs => v = .lst xs ∨ v = .fls xs
def geO : Option Int → Int → Prop
  | none, _ => True
  | some l, i => l ≤ i
def leO : Option Int → Int → Prop
  | none, _ => True
  | some h, i => i ≤ h
def Sy.ok (ν : List Nat) : Sy → Int → Prop
  | .no, _ => True
  | .eq id off, i => ∃ l, ν[id]? = some l ∧ i = l + off
  | .lt id off, i => ∃ l, ν[id]? = some l ∧ i < l + off
def idOk (ν : List Nat) : Option Nat → Nat → Prop
  | none, _ => True
  | some id, n => ν[id]? = some n
/-- what types of the user's own mean -/
abbrev UT := Nat → PV → Prop
mutual
def Ty.has (U : UT) (ρ ν : List Nat) : Ty → PV → Prop
  | .any, _ => True
  | .int lo hi s, v => ∃ i, v = .int i ∧ geO lo i ∧ leO hi i ∧ s.ok ν i
  | .bl f t, v => ∃ b, v = .bl b ∧ (if b = true then t else f) = true
  | .non, v => v = .non
  | .str lo hi id, v => ∃ s, v = .str s ∧ PyData.strOk s = true ∧ lo ≤ s.length ∧ s.length ≤ hi ∧ idOk ν id s.length
  | .cst s, v => v = .str s ∧ PyData.strOk s = true
  | .tup ts, v => ∃ xs, v = .tup xs ∧ Ty.hasL U ρ ν ts xs
  | .lst ts, v => ∃ xs, v = .lst xs ∧ Ty.hasL U ρ ν ts xs
  | .seq k t lo hi id, v => ∃ xs, k.is v xs ∧ lo ≤ xs.length ∧ xs.length ≤ hi ∧ idOk ν id xs.length ∧ ∀ x ∈ xs, Ty.has U ρ ν t x
  | .dk ks ts, v => ∃ xs, v = .dk ks xs ∧ Ty.hasL U ρ ν ts xs
  | .cell k, v => ∃ a, ρ[k]? = some a ∧ v = .ref a
  | .usr u, v => U u v
  | .or a b, v => Ty.has U ρ ν a v ∨ Ty.has U ρ ν b v
  | .dat d n, v => isD v = true ∧ DOk d n (Pv.dat v)
  | .raw, v => ∃ s, v = .str s
def Ty.hasL (U : UT) (ρ ν : List Nat) : List Ty → List PV → Prop
  | [], xs => xs = []
  | t :: ts, xs => ∃ y ys, xs = y :: ys ∧ Ty.has U ρ ν t y ∧ Ty.hasL U ρ ν ts ys
end
section
variable {U : UT} {ρ ρ' ν ν' : List Nat}
theorem get_pre {α : Type} {xs ys : List α} (h : xs <+: ys) {i : Nat} {a : α} (e : xs[i]? = some a) : ys[i]? = some a := by
  obtain ⟨t, rfl⟩ := h
  rw [List.getElem?_append_left (List.getElem?_eq_some_iff.mp e).1]; exact e
theorem Sy.ok.ext (hn : ν <+: ν') {s : Sy} {i : Int} (h : s.ok ν i) : s.ok ν' i := by
  cases s with
  | no => trivial
  | eq id off => exact ⟨h.choose, get_pre hn h.choose_spec.1, h.choose_spec.2⟩
  | lt id off => exact ⟨h.choose, get_pre hn h.choose_spec.1, h.choose_spec.2⟩
theorem idOk.ext (hn : ν <+: ν') {o : Option Nat} {i : Nat} (h : idOk ν o i) : idOk ν' o i := by
  cases o with
  | none => trivial
  | some id => exact get_pre hn h
mutual
theorem Ty.has.ext (hr : ρ <+: ρ') (hn : ν <+: ν') : ∀ (t : Ty) (v : PV), t.has U ρ ν v → t.has U ρ' ν' v
  | .any, _, _ => by simp only [Ty.has]
  | .int lo hi s, v, h => by
    simp only [Ty.has] at h ⊢
    obtain ⟨i, e, a, b, c⟩ := h
    exact ⟨i, e, a, b, c.ext hn⟩
  | .bl f t, v, h => by simp only [Ty.has] at h ⊢; exact h
  | .non, v, h => by simp only [Ty.has] at h ⊢; exact h
  | .str lo hi id, v, h => by
    simp only [Ty.has] at h ⊢
    obtain ⟨s, e, a, b, c, d⟩ := h
    exact ⟨s, e, a, b, c, d.ext hn⟩
  | .cst s, v, h => by simp only [Ty.has] at h ⊢; exact h
  | .tup ts, v, h => by
    simp only [Ty.has] at h ⊢
    obtain ⟨xs, e, a⟩ := h
    exact ⟨xs, e, Ty.hasL.ext hr hn ts xs a⟩
  | .lst ts, v, h => by
    simp only [Ty.has] at h ⊢
    obtain ⟨xs, e, a⟩ := h
    exact ⟨xs, e, Ty.hasL.ext hr hn ts xs a⟩
  | .seq k t lo hi id, v, h => by
    simp only [Ty.has] at h ⊢
    obtain ⟨xs, e, a, b, c, d⟩ := h
    exact ⟨xs, e, a, b, c.ext hn, fun x m => Ty.has.ext hr hn t x (d x m)⟩
  | .dk ks ts, v, h => by
    simp only [Ty.has] at h ⊢
    obtain ⟨xs, e, a⟩ := h
    exact ⟨xs, e, Ty.hasL.ext hr hn ts xs a⟩
  | .cell k, v, h => by
    simp only [Ty.has] at h ⊢
    obtain ⟨a, e, f⟩ := h
    exact ⟨a, get_pre hr e, f⟩
  | .usr u, v, h => by simp only [Ty.has] at h ⊢; exact h
  | .or a b, v, h => by
    simp only [Ty.has] at h ⊢
    exact h.imp (Ty.has.ext hr hn a v) (Ty.has.ext hr hn b v)
  | .dat d n, v, h => by simp only [Ty.has] at h ⊢; exact h
  | .raw, v, h => by simp only [Ty.has] at h ⊢; exact h
theorem Ty.hasL.ext (hr : ρ <+: ρ') (hn : ν <+: ν') : ∀ (ts : List Ty) (xs : List PV), Ty.hasL U ρ ν ts xs → Ty.hasL U ρ' ν' ts xs
  | [], xs, h => by simp only [Ty.hasL] at h ⊢; exact h
  | t :: ts, xs, h => by
    simp only [Ty.hasL] at h ⊢
    obtain ⟨y, ys, e, a, b⟩ := h
    exact ⟨y, ys, e, Ty.has.ext hr hn t y a, Ty.hasL.ext hr hn ts ys b⟩
end
theorem hasL_len : ∀ {ts : List Ty} {xs : List PV}, Ty.hasL U ρ ν ts xs → xs.length = ts.length
  | [], _, h => by simp only [Ty.hasL] at h; subst h; rfl
  | t :: ts, _, h => by
    simp only [Ty.hasL] at h
    obtain ⟨y, ys, rfl, _, b⟩ := h
    simp [hasL_len b]
theorem hasL_mem : ∀ {ts : List Ty} {xs : List PV} {x : PV}, Ty.hasL U ρ ν ts xs → x ∈ xs → ∃ t ∈ ts, t.has U ρ ν x
  | [], _, x, h, m => by simp only [Ty.hasL] at h; subst h; cases m
  | t :: ts, _, x, h, m => by
    simp only [Ty.hasL] at h
    obtain ⟨y, ys, rfl, a, b⟩ := h
    rcases List.mem_cons.mp m with e | m
    · subst e; exact ⟨t, List.mem_cons_self, a⟩
    · obtain ⟨u, mu, hu⟩ := hasL_mem b m
      exact ⟨u, List.mem_cons_of_mem _ mu, hu⟩
end
/-- the user's own types: what lies in them, in what they lie -/
structure US where
  into : (Ty → Ty → Bool) → Ty → Nat → Bool
  unf : Nat → Ty
def bdL (f : Ty → Option (Nat × Nat)) : List Ty → Option (Nat × Nat)
  | [] => some (0, 0)
  | t :: ts => match f t, bdL f ts with
    | some (d, n), some (e, m) => some (max d e, n + 2 + m)
    | _, _ => none
def bigI : Int := 10 ^ 50
/-- how deep, how long in a text, data of a type is -/
def Ty.bd (us : US) : Nat → Ty → Option (Nat × Nat)
  | 0, _ => none
  | k + 1, t => match t with
    | .int (some lo) (some hi) _ => if -bigI < lo ∧ hi < bigI then some (0, 60) else none
    | .bl _ _ => some (0, 5)
    | .non => some (0, 4)
    | .str _ hi _ => some (0, 10 * hi + 2)
    | .cst s => some (0, 10 * s.length + 2)
    | .tup ts => match bdL (Ty.bd us k) ts with
      | some (d, n) => some (d + 1, 3 + n)
      | none => none
    | .lst ts => match bdL (Ty.bd us k) ts with
      | some (d, n) => some (d + 1, 3 + n)
      | none => none
    | .seq _ t _ hi _ => match Ty.bd us k t with
      | some (d, n) => some (d + 1, 3 + (n + 2) * hi)
      | none => none
    | .usr u => Ty.bd us k (us.unf u)
    | .or a b => match Ty.bd us k a, Ty.bd us k b with
      | some (d, n), some (e, m) => some (max d e, max n m)
      | _, _ => none
    | .dat d n => some (d, n)
    | _ => none
def leOI : Option Int → Option Int → Bool
  | _, none => true
  | none, some _ => false
  | some a, some b => decide (a ≤ b)
def geOI : Option Int → Option Int → Bool
  | _, none => true
  | none, some _ => false
  | some a, some b => decide (b ≤ a)
def Sy.sub (m : Nat) : Sy → Sy → Bool
  | _, .no => true
  | .eq a x, .eq b y => a == b && x == y && decide (a < m)
  | .lt a x, .lt b y => a == b && decide (x ≤ y) && decide (a < m)
  | .eq a x, .lt b y => a == b && decide (x < y) && decide (a < m)
  | _, _ => false
def idSub (m : Nat) : Option Nat → Option Nat → Bool
  | _, none => true
  | some a, some b => a == b && decide (a < m)
  | none, some _ => false
def Kd.sub : Kd → Kd → Bool
  | .lst, .anl => true
  | .fls, .anl => true
  | a, b => a == b
def subL (f : Ty → Ty → Bool) : List Ty → List Ty → Bool
  | [], [] => true
  | a :: as, b :: bs => f a b && subL f as bs
  | _, _ => false
/-- a lies in b, of cells below n and lengths below m -/
def Ty.sub (us : US) (n m : Nat) : Nat → Ty → Ty → Bool
  | 0, _, _ => false
  | k + 1, a, b => match a, b with
    | _, .any => true
    | .or a1 a2, b => Ty.sub us n m k a1 b && Ty.sub us n m k a2 b
    | a, .or b1 b2 => Ty.sub us n m k a b1 || Ty.sub us n m k a b2
    | .usr u, .usr w => u == w || us.into (Ty.sub us n m k) (.usr u) w
    | a, .usr w => us.into (Ty.sub us n m k) a w
    | a, .dat d e => match Ty.bd us 30 a with
      | some (d', e') => decide (d' ≤ d) && decide (e' ≤ e)
      | none => false
    | .usr u, b => Ty.sub us n m k (us.unf u) b
    | .int l h s, .int l' h' s' => geOI l l' && leOI h h' && s.sub m s'
    | .bl f t, .bl f' t' => (!f || f') && (!t || t')
    | .non, .non => true
    | .str l h i, .str l' h' i' => decide (l' ≤ l) && decide (h ≤ h') && idSub m i i'
    | .cst s, .cst s' => s == s'
    | .cst s, .str l h none => decide (l ≤ s.length) && decide (s.length ≤ h)
    | .tup as, .tup bs => subL (Ty.sub us n m k) as bs
    | .lst as, .lst bs => subL (Ty.sub us n m k) as bs
    | .tup as, .seq q t l h none => q == .tup && as.all (fun a => Ty.sub us n m k a t) && decide (l ≤ as.length) && decide (as.length ≤ h)
    | .lst as, .seq q t l h none => Kd.sub .lst q && as.all (fun a => Ty.sub us n m k a t) && decide (l ≤ as.length) && decide (as.length ≤ h)
    | .seq q t l h i, .seq q' t' l' h' i' => q.sub q' && (h == 0 || Ty.sub us n m k t t') && decide (l' ≤ l) && decide (h ≤ h') && idSub m i i'
    | .seq q t l h i, .tup [] => q == .tup && h == 0
    | .seq q t l h i, .lst [] => q == .lst && h == 0
    | .dk ks as, .dk ks' bs => decide (ks = ks') && subL (Ty.sub us n m k) as bs
    | .cell a, .cell b => a == b && decide (a < n)
    | .raw, .raw => true
    | .str _ _ _, .raw => true
    | .cst _, .raw => true
    | _, _ => false
/-- that the user's types are right -/
structure USok (U : UT) (us : US) : Prop where
  unf : ∀ u v ρ ν, U u v → (us.unf u).has U ρ ν v
  into : ∀ (f : Ty → Ty → Bool) ρ ν ρ' ν' a u v, (∀ a b v, f a b = true → a.has U ρ ν v → b.has U ρ' ν' v) → us.into f a u = true → a.has U ρ ν v → U u v
section
variable {U : UT} {us : US} {ρ ν : List Nat}
theorem int_show {i : Int} (h1 : -bigI < i) (h2 : i < bigI) : DOk 0 60 (.int i) := by
  have hb : bigI = 10 ^ 50 := rfl
  have h : i.natAbs < 10 ^ 50 := by omega
  refine ⟨rfl, Nat.le_refl _, ?_, ?_⟩
  · simp only [PyData.showable, decide_eq_true_eq]
    have : i.natAbs.log2 < 200 := by
      by_cases z : i.natAbs = 0
      · rw [z]; decide
      · rw [Nat.log2_lt z]
        exact Nat.lt_of_lt_of_le h (by decide)
    omega
  · simp only [tl]
    have := int_text_length_le10 (a := i) (k := 50) (by decide) h
    omega
theorem bdL_ok {f : Ty → Option (Nat × Nat)} (hf : ∀ t d n v, f t = some (d, n) → t.has U ρ ν v → isD v = true ∧ DOk d n (dat v)) : ∀ {ts : List Ty} {d n : Nat} {xs : List PV}, bdL f ts = some (d, n) → Ty.hasL U ρ ν ts xs →
    isDs xs = true ∧ PyData.canLayAll0 (dats xs) = true ∧ PyData.depthAll (dats xs) ≤ d ∧ PyData.showableAll (dats xs) = true ∧ tls (dats xs) ≤ n
  | [], d, n, xs, h, g => by
    simp only [Ty.hasL] at g
    subst g
    simp only [bdL, Option.some.injEq, Prod.mk.injEq] at h
    exact ⟨rfl, rfl, Nat.zero_le _, rfl, Nat.zero_le _⟩
  | t :: ts, d, n, xs, h, g => by
    simp only [Ty.hasL] at g
    obtain ⟨y, ys, rfl, a, b⟩ := g
    simp only [bdL] at h
    split at h
    · rename_i d1 n1 d2 n2 e1 e2
      simp only [Option.some.injEq, Prod.mk.injEq] at h
      obtain ⟨rfl, rfl⟩ := h
      obtain ⟨p1, p2⟩ := hf t _ _ y e1 a
      obtain ⟨q1, q2, q3, q4, q5⟩ := bdL_ok hf e2 b
      refine ⟨by simp only [isDs, p1, q1, Bool.and_self], by simp only [dats, PyData.canLayAll0, p2.lay, q2, Bool.and_self], ?_, by simp only [dats, PyData.showableAll, p2.show_, q4, Bool.and_self], ?_⟩
      · simp only [dats, PyData.depthAll]
        have := p2.deep
        omega
      · simp only [dats, tls]
        have := p2.len
        omega
    · cases h
theorem seq_dat {d n h : Nat} {xs : List PV} (hx : ∀ x ∈ xs, isD x = true ∧ DOk d n (dat x)) (hl : xs.length ≤ h) : isDs xs = true ∧ (∀ y ∈ dats xs, DOk d n y) ∧ (dats xs).length ≤ h := by
  refine ⟨?_, fun y m => ?_, by rw [dats_map, List.length_map]; exact hl⟩
  · clear hl
    induction xs with
    | nil => rfl
    | cons x xs ih => simp only [isDs, (hx x List.mem_cons_self).1, ih fun y m => hx y (List.mem_cons_of_mem _ m), Bool.and_self]
  · rw [dats_map] at m
    obtain ⟨x, mx, rfl⟩ := List.mem_map.mp m
    exact (hx x mx).2
theorem bd_ok (ok : USok U us) : ∀ (k : Nat) (t : Ty) (d n : Nat) (v : PV), Ty.bd us k t = some (d, n) → t.has U ρ ν v → isD v = true ∧ DOk d n (dat v)
  | 0, _, _, _, _, h, _ => by simp [Ty.bd] at h
  | k + 1, t, d, n, v, h, g => by
    cases t with
    | any => simp [Ty.bd] at h
    | raw => simp [Ty.bd] at h
    | dk _ _ => simp [Ty.bd] at h
    | cell _ => simp [Ty.bd] at h
    | int lo hi s =>
      cases lo with
      | none => simp [Ty.bd] at h
      | some lo =>
        cases hi with
        | none => simp [Ty.bd] at h
        | some hi =>
          simp only [Ty.bd] at h
          split at h
          · rename_i hb
            simp only [Option.some.injEq, Prod.mk.injEq] at h
            obtain ⟨rfl, rfl⟩ := h
            simp only [Ty.has] at g
            obtain ⟨i, rfl, a, b, _⟩ := g
            simp only [geO, leO] at a b
            exact ⟨rfl, int_show (by omega) (by omega)⟩
          · cases h
    | bl f t =>
      simp only [Ty.bd, Option.some.injEq, Prod.mk.injEq] at h
      obtain ⟨rfl, rfl⟩ := h
      simp only [Ty.has] at g
      obtain ⟨b, rfl, _⟩ := g
      exact ⟨rfl, rfl, Nat.le_refl _, rfl, Nat.le_refl _⟩
    | non =>
      simp only [Ty.bd, Option.some.injEq, Prod.mk.injEq] at h
      obtain ⟨rfl, rfl⟩ := h
      simp only [Ty.has] at g
      subst g
      exact ⟨rfl, rfl, Nat.le_refl _, rfl, Nat.le_refl _⟩
    | str lo hi id =>
      simp only [Ty.bd, Option.some.injEq, Prod.mk.injEq] at h
      obtain ⟨rfl, rfl⟩ := h
      simp only [Ty.has] at g
      obtain ⟨s, rfl, a, b, c, _⟩ := g
      exact ⟨rfl, a, Nat.le_refl _, rfl, by simp only [dat, tl]; omega⟩
    | cst s =>
      simp only [Ty.bd, Option.some.injEq, Prod.mk.injEq] at h
      obtain ⟨rfl, rfl⟩ := h
      simp only [Ty.has] at g
      obtain ⟨rfl, a⟩ := g
      exact ⟨rfl, a, Nat.le_refl _, rfl, by simp only [dat, tl]; omega⟩
    | tup ts =>
      simp only [Ty.bd] at h
      split at h
      · rename_i d' n' e
        simp only [Option.some.injEq, Prod.mk.injEq] at h
        obtain ⟨rfl, rfl⟩ := h
        simp only [Ty.has] at g
        obtain ⟨xs, rfl, a⟩ := g
        obtain ⟨q1, q2, q3, q4, q5⟩ := bdL_ok (fun t d n v => bd_ok ok k t d n v) e a
        exact ⟨by simpa only [isD] using q1, by simpa only [dat, PyData.canLay0] using q2, by simp only [dat, PyData.depth]; omega, by simpa only [dat, PyData.showable] using q4, by simp only [dat, tl]; omega⟩
      · cases h
    | lst ts =>
      simp only [Ty.bd] at h
      split at h
      · rename_i d' n' e
        simp only [Option.some.injEq, Prod.mk.injEq] at h
        obtain ⟨rfl, rfl⟩ := h
        simp only [Ty.has] at g
        obtain ⟨xs, rfl, a⟩ := g
        obtain ⟨q1, q2, q3, q4, q5⟩ := bdL_ok (fun t d n v => bd_ok ok k t d n v) e a
        exact ⟨by simpa only [isD] using q1, by simpa only [dat, PyData.canLay0] using q2, by simp only [dat, PyData.depth]; omega, by simpa only [dat, PyData.showable] using q4, by simp only [dat, tl]; omega⟩
      · cases h
    | seq q t lo hi id =>
      simp only [Ty.bd] at h
      split at h
      · rename_i d' n' e
        simp only [Option.some.injEq, Prod.mk.injEq] at h
        obtain ⟨rfl, rfl⟩ := h
        simp only [Ty.has] at g
        obtain ⟨xs, e2, a, b, c, hx⟩ := g
        obtain ⟨q1, q2, q3⟩ := seq_dat (fun x m => bd_ok ok k t _ _ x e (hx x m)) b
        cases q with
        | tup => cases e2; exact ⟨by simpa only [isD] using q1, by simpa only [dat] using DOk.tup q2 q3⟩
        | lst => cases e2; exact ⟨by simpa only [isD] using q1, by simpa only [dat] using DOk.lst q2 q3⟩
        | fls => cases e2; exact ⟨by simpa only [isD] using q1, by simpa only [dat] using DOk.lst q2 q3⟩
        | anl =>
          rcases e2 with rfl | rfl
          · exact ⟨by simpa only [isD] using q1, by simpa only [dat] using DOk.lst q2 q3⟩
          · exact ⟨by simpa only [isD] using q1, by simpa only [dat] using DOk.lst q2 q3⟩
      · cases h
    | usr u =>
      simp only [Ty.bd] at h
      simp only [Ty.has] at g
      exact bd_ok ok k _ d n v h (ok.unf u v ρ ν g)
    | or a b =>
      simp only [Ty.bd] at h
      split at h
      · rename_i d1 n1 d2 n2 e1 e2
        simp only [Option.some.injEq, Prod.mk.injEq] at h
        obtain ⟨rfl, rfl⟩ := h
        simp only [Ty.has] at g
        rcases g with g | g
        · have := bd_ok ok k a _ _ v e1 g
          exact ⟨this.1, this.2.mono (Nat.le_max_left _ _) (Nat.le_max_left _ _)⟩
        · have := bd_ok ok k b _ _ v e2 g
          exact ⟨this.1, this.2.mono (Nat.le_max_right _ _) (Nat.le_max_right _ _)⟩
      · cases h
    | dat d' n' =>
      simp only [Ty.bd, Option.some.injEq, Prod.mk.injEq] at h
      obtain ⟨rfl, rfl⟩ := h
      simpa only [Ty.has] using g
end
end Pv
namespace Pv
open PySem PySem.Spec L2
section
variable {U : UT} {us : US} {ρ ν : List Nat} {n m : Nat}
theorem get_take {α : Type} {xs : List α} {i n : Nat} {a : α} (h : i < n) (e : xs[i]? = some a) : (xs.take n)[i]? = some a := by
  rw [List.getElem?_take, if_pos h]; exact e
theorem idSub_ok {a b : Option Nat} {k : Nat} (h : idSub m a b = true) (g : idOk ν a k) : idOk (ν.take m) b k := by
  cases b with
  | none => trivial
  | some b =>
    cases a with
    | none => cases h
    | some a =>
      simp only [idSub, Bool.and_eq_true, beq_iff_eq, decide_eq_true_eq] at h
      obtain ⟨rfl, h⟩ := h
      exact get_take h g
theorem Sy.sub_ok {a b : Sy} {i : Int} (h : a.sub m b = true) (g : a.ok ν i) : b.ok (ν.take m) i := by
  cases b with
  | no => trivial
  | eq id off =>
    cases a with
    | eq id' off' =>
      simp only [Sy.sub, Bool.and_eq_true, beq_iff_eq, decide_eq_true_eq] at h
      obtain ⟨⟨rfl, rfl⟩, h⟩ := h
      obtain ⟨l, e, q⟩ := g
      exact ⟨l, get_take h e, q⟩
    | _ => cases h
  | lt id off =>
    cases a with
    | eq id' off' =>
      simp only [Sy.sub, Bool.and_eq_true, beq_iff_eq, decide_eq_true_eq] at h
      obtain ⟨⟨rfl, h2⟩, h⟩ := h
      obtain ⟨l, e, q⟩ := g
      exact ⟨l, get_take h e, by omega⟩
    | lt id' off' =>
      simp only [Sy.sub, Bool.and_eq_true, beq_iff_eq, decide_eq_true_eq] at h
      obtain ⟨⟨rfl, h2⟩, h⟩ := h
      obtain ⟨l, e, q⟩ := g
      exact ⟨l, get_take h e, by omega⟩
    | _ => cases h
theorem geOI_ok {a b : Option Int} {i : Int} (h : geOI a b = true) (g : geO a i) : geO b i := by
  cases b with
  | none => trivial
  | some b =>
    cases a with
    | none => cases h
    | some a => simp only [geOI, decide_eq_true_eq] at h; simp only [geO] at g ⊢; omega
theorem leOI_ok {a b : Option Int} {i : Int} (h : leOI a b = true) (g : leO a i) : leO b i := by
  cases b with
  | none => trivial
  | some b =>
    cases a with
    | none => cases h
    | some a => simp only [leOI, decide_eq_true_eq] at h; simp only [leO] at g ⊢; omega
theorem subL_ok {ρ' ν' : List Nat} {f : Ty → Ty → Bool} (hf : ∀ a b v, f a b = true → a.has U ρ ν v → b.has U ρ' ν' v) : ∀ {as bs : List Ty} {xs : List PV}, subL f as bs = true → Ty.hasL U ρ ν as xs → Ty.hasL U ρ' ν' bs xs
  | [], [], _, _, g => by simpa only [Ty.hasL] using g
  | [], _ :: _, _, h, _ => by cases h
  | _ :: _, [], _, h, _ => by cases h
  | a :: as, b :: bs, _, h, g => by
    simp only [subL, Bool.and_eq_true] at h
    simp only [Ty.hasL] at g ⊢
    obtain ⟨y, ys, rfl, p, q⟩ := g
    exact ⟨y, ys, rfl, hf _ _ _ h.1 p, subL_ok hf h.2 q⟩
theorem allL_ok {ρ' ν' : List Nat} {f : Ty → Ty → Bool} {t : Ty} (hf : ∀ a b v, f a b = true → a.has U ρ ν v → b.has U ρ' ν' v) {as : List Ty} {xs : List PV} (h : as.all (fun a => f a t) = true) (g : Ty.hasL U ρ ν as xs) : ∀ x ∈ xs, t.has U ρ' ν' x := fun x mx => by
  obtain ⟨a, ma, ha⟩ := hasL_mem g mx
  exact hf _ _ _ (List.all_eq_true.mp h a ma) ha
theorem Kd.sub_ok {q q' : Kd} {v : PV} {xs : List PV} (h : q.sub q' = true) (g : q.is v xs) : q'.is v xs := by
  cases q <;> cases q' <;> first | exact g | exact .inl g | exact .inr g | cases h
theorem sub_ok (ok : USok U us) : ∀ (k : Nat) (a b : Ty) (v : PV), Ty.sub us n m k a b = true → a.has U ρ ν v → b.has U (ρ.take n) (ν.take m) v
  | 0, _, _, _, h, _ => by simp [Ty.sub] at h
  | k + 1, a, b, v, h, g => by
    have ih := sub_ok ok k
    unfold Ty.sub at h
    split at h
    · simp only [Ty.has]
    · simp only [Bool.and_eq_true] at h
      simp only [Ty.has] at g
      exact g.elim (ih _ _ v h.1) (ih _ _ v h.2)
    · simp only [Bool.or_eq_true] at h
      simp only [Ty.has]
      exact h.imp (fun h => ih _ _ v h g) (fun h => ih _ _ v h g)
    · simp only [Bool.or_eq_true, beq_iff_eq] at h
      rcases h with rfl | h
      · simpa only [Ty.has] using g
      · simp only [Ty.has]; exact ok.into _ ρ ν _ _ _ _ _ ih h g
    · simp only [Ty.has]; exact ok.into _ ρ ν _ _ _ _ _ ih h g
    · split at h
      · rename_i e
        simp only [Bool.and_eq_true, decide_eq_true_eq] at h
        have := bd_ok ok _ _ _ _ v e g
        simp only [Ty.has]
        exact ⟨this.1, this.2.mono h.1 h.2⟩
      · cases h
    · simp only [Ty.has] at g
      exact ih _ _ v h (ok.unf _ _ ρ ν g)
    · simp only [Bool.and_eq_true] at h
      simp only [Ty.has] at g ⊢
      obtain ⟨i, e, p, q, r⟩ := g
      exact ⟨i, e, geOI_ok h.1.1 p, leOI_ok h.1.2 q, Sy.sub_ok h.2 r⟩
    · simp only [Bool.and_eq_true, Bool.or_eq_true, Bool.not_eq_true'] at h
      simp only [Ty.has] at g ⊢
      obtain ⟨b, e, q⟩ := g
      refine ⟨b, e, ?_⟩
      cases b with
      | true => simp only [if_true] at q ⊢; rcases h.2 with z | z; rw [q] at z; cases z; exact z
      | false => simp only [Bool.false_eq_true, if_false] at q ⊢; rcases h.1 with z | z; rw [q] at z; cases z; exact z
    · simpa only [Ty.has] using g
    · simp only [Bool.and_eq_true, decide_eq_true_eq] at h
      simp only [Ty.has] at g ⊢
      obtain ⟨s, e, o, p, q, r⟩ := g
      exact ⟨s, e, o, by omega, by omega, idSub_ok h.2 r⟩
    · simp only [beq_iff_eq] at h
      subst h
      simpa only [Ty.has] using g
    · simp only [Bool.and_eq_true, decide_eq_true_eq] at h
      simp only [Ty.has] at g ⊢
      exact ⟨_, g.1, g.2, h.1, h.2, trivial⟩
    · simp only [Ty.has] at g ⊢
      obtain ⟨xs, e, q⟩ := g
      exact ⟨xs, e, subL_ok ih h q⟩
    · simp only [Ty.has] at g ⊢
      obtain ⟨xs, e, q⟩ := g
      exact ⟨xs, e, subL_ok ih h q⟩
    · simp only [Bool.and_eq_true, beq_iff_eq, decide_eq_true_eq] at h
      obtain ⟨⟨⟨rfl, h1⟩, h2⟩, h3⟩ := h
      simp only [Ty.has] at g ⊢
      obtain ⟨xs, e, q⟩ := g
      have := hasL_len q
      exact ⟨xs, e, by omega, by omega, trivial, allL_ok ih h1 q⟩
    · simp only [Bool.and_eq_true, decide_eq_true_eq] at h
      obtain ⟨⟨⟨h0, h1⟩, h2⟩, h3⟩ := h
      simp only [Ty.has] at g ⊢
      obtain ⟨xs, e, q⟩ := g
      have := hasL_len q
      exact ⟨xs, Kd.sub_ok h0 e, by omega, by omega, trivial, allL_ok ih h1 q⟩
    · simp only [Bool.and_eq_true, Bool.or_eq_true, beq_iff_eq, decide_eq_true_eq] at h
      obtain ⟨⟨⟨⟨h0, h1⟩, h2⟩, h3⟩, h4⟩ := h
      simp only [Ty.has] at g ⊢
      obtain ⟨xs, e, p, q, r, hx⟩ := g
      refine ⟨xs, Kd.sub_ok h0 e, by omega, by omega, idSub_ok h4 r, fun x mx => ?_⟩
      rcases h1 with rfl | h1
      · cases xs with
        | nil => cases mx
        | cons _ _ => simp at q
      · exact ih _ _ x h1 (hx x mx)
    · simp only [Bool.and_eq_true, beq_iff_eq] at h
      obtain ⟨rfl, rfl⟩ := h
      simp only [Ty.has, Ty.hasL] at g ⊢
      obtain ⟨xs, e, p, q, r, hx⟩ := g
      exact ⟨xs, e, List.length_eq_zero_iff.mp (by omega)⟩
    · simp only [Bool.and_eq_true, beq_iff_eq] at h
      obtain ⟨rfl, rfl⟩ := h
      simp only [Ty.has, Ty.hasL] at g ⊢
      obtain ⟨xs, e, p, q, r, hx⟩ := g
      exact ⟨xs, e, List.length_eq_zero_iff.mp (by omega)⟩
    · simp only [Bool.and_eq_true, decide_eq_true_eq] at h
      obtain ⟨rfl, h⟩ := h
      simp only [Ty.has] at g ⊢
      obtain ⟨xs, e, q⟩ := g
      exact ⟨xs, e, subL_ok ih h q⟩
    · simp only [Bool.and_eq_true, beq_iff_eq, decide_eq_true_eq] at h
      obtain ⟨rfl, h⟩ := h
      simp only [Ty.has] at g ⊢
      obtain ⟨a, e, q⟩ := g
      exact ⟨a, get_take h e, q⟩
    · simpa only [Ty.has] using g
    · simp only [Ty.has] at g ⊢
      obtain ⟨s, e, _⟩ := g
      exact ⟨s, e⟩
    · simp only [Ty.has] at g ⊢
      exact ⟨_, g.1⟩
    · cases h
end
end Pv
namespace Pv
open PySem PySem.Spec L2
structure AS where
  ev : List (Option Ty)
  cs : List Ty
  n : Nat
section
variable (U : UT)
structure StoIn (cs : List Ty) (n : Nat) (ρ ν : List Nat) (st : Sto) : Prop where
  rl : ρ.length = cs.length
  nd : ρ.Nodup
  nl : ν.length = n
  at_ : ∀ (k : Nat) t a, cs[k]? = some t → ρ[k]? = some a → ∃ xs, st[a]? = some (.lst xs) ∧ t.has U ρ ν (.lst xs)
structure EnvIn (ev : List (Option Ty)) (ρ ν : List Nat) (env : Envp) : Prop where
  len : env.length = ev.length
  at_ : ∀ (i : Nat) t, ev[i]? = some (some t) → ∃ v, env[i]? = some (some v) ∧ t.has U ρ ν v
end
structure Step (ρ ν : List Nat) (st : Sto) (ρ' ν' : List Nat) (st' : Sto) : Prop where
  r : ρ <+: ρ'
  n : ν <+: ν'
  g : Gr ρ st st'
  f : ∀ a ∈ ρ', a ∈ ρ ∨ st.length ≤ a
section
variable {U : UT} {ρ ρ' ρ2 ν ν' ν2 : List Nat} {st st' st2 : Sto} {cs : List Ty} {n : Nat} {ev : List (Option Ty)} {env : Envp}
theorem Step.refl : Step ρ ν st ρ ν st := ⟨List.prefix_rfl, List.prefix_rfl, .refl, fun _ h => .inl h⟩
theorem Step.trans (s : Step ρ ν st ρ' ν' st') (t : Step ρ' ν' st' ρ2 ν2 st2) : Step ρ ν st ρ2 ν2 st2 where
  r := s.r.trans t.r
  n := s.n.trans t.n
  g := ⟨Nat.le_trans s.g.1 t.g.1, fun i c h e => t.g.2 i c (fun m => by
    rcases s.f i m with z | z
    · exact h z
    · have := (List.getElem?_eq_some_iff.mp e).1; omega) (s.g.2 i c h e)⟩
  f := fun a m => by
    rcases t.f a m with z | z
    · exact s.f a z
    · exact .inr (Nat.le_trans s.g.1 z)
theorem EnvIn.ext (h : EnvIn U ev ρ ν env) (hr : ρ <+: ρ') (hn : ν <+: ν') : EnvIn U ev ρ' ν' env :=
  ⟨h.len, fun i t e => let ⟨v, a, b⟩ := h.at_ i t e; ⟨v, a, b.ext hr hn⟩⟩
theorem EnvIn.step (h : EnvIn U ev ρ ν env) (s : Step ρ ν st ρ' ν' st') : EnvIn U ev ρ' ν' env := h.ext s.r s.n
theorem StoIn.lt (h : StoIn U cs n ρ ν st) {k : Nat} {a : Nat} (e : ρ[k]? = some a) : a < st.length := by
  have hk := (List.getElem?_eq_some_iff.mp e).1
  have hl := h.rl
  obtain ⟨xs, q, _⟩ := h.at_ k (cs[k]'(by omega)) a (List.getElem?_eq_getElem _) e
  exact (List.getElem?_eq_some_iff.mp q).1
theorem StoIn.mem_lt (h : StoIn U cs n ρ ν st) {a : Nat} (m : a ∈ ρ) : a < st.length := by
  obtain ⟨k, e⟩ := List.getElem?_of_mem m
  exact h.lt e
/-- a new cell -/
theorem StoIn.new (h : StoIn U cs n ρ ν st) {t : Ty} {xs : List PV} (g : t.has U ρ ν (.lst xs)) : StoIn U (cs ++ [t]) n (ρ ++ [st.length]) ν (st ++ [.lst xs]) where
  rl := by simp [h.rl]
  nd := by
    rw [List.nodup_append]
    refine ⟨h.nd, by simp, fun a ha b hb => ?_⟩
    rw [List.mem_singleton] at hb; subst hb
    have := h.mem_lt ha
    omega
  nl := h.nl
  at_ := fun k t' a e1 e2 => by
    have hl := h.rl
    by_cases hk : k < cs.length
    · rw [List.getElem?_append_left hk] at e1
      rw [List.getElem?_append_left (by omega)] at e2
      obtain ⟨ys, q1, q2⟩ := h.at_ k t' a e1 e2
      exact ⟨ys, by rw [List.getElem?_append_left (h.lt e2)]; exact q1, q2.ext (List.prefix_append _ _) List.prefix_rfl⟩
    · rw [List.getElem?_append_right (by omega)] at e1 e2
      have z1 : k - cs.length = 0 := by
        have := (List.getElem?_eq_some_iff.mp e1).1
        simp at this; omega
      have z2 : k - ρ.length = 0 := by omega
      rw [z1] at e1; rw [z2] at e2
      simp at e1 e2; subst e1; subst e2
      exact ⟨xs, by simp, g.ext (List.prefix_append _ _) List.prefix_rfl⟩
theorem Step.new {cs : List Cell} {ts : Cell} : Step ρ ν st (ρ ++ [st.length]) ν (st ++ [ts]) :=
  ⟨List.prefix_append _ _, List.prefix_rfl, Gr.new, fun a m => by
    rcases List.mem_append.mp m with m | m
    · exact .inl m
    · rw [List.mem_singleton] at m; subst m; exact .inr (Nat.le_refl _)⟩
/-- a cell is changed -/
theorem StoIn.set (h : StoIn U cs n ρ ν st) {k a : Nat} {t : Ty} {xs : List PV} (e : ρ[k]? = some a) (g : t.has U ρ ν (.lst xs)) : StoIn U (cs.set k t) n ρ ν (st.set a (.lst xs)) where
  rl := by simp [h.rl]
  nd := h.nd
  nl := h.nl
  at_ := fun k' t' a' e1 e2 => by
    have hl := h.rl
    by_cases hk : k' = k
    · subst hk
      rw [e] at e2; cases e2
      have := (List.getElem?_eq_some_iff.mp e).1
      rw [List.getElem?_set_self (by omega)] at e1
      cases e1
      exact ⟨xs, List.getElem?_set_self (h.lt e), g⟩
    · rw [List.getElem?_set_ne (Ne.symm hk)] at e1
      obtain ⟨ys, q1, q2⟩ := h.at_ k' t' a' e1 e2
      refine ⟨ys, ?_, q2⟩
      rw [List.getElem?_set_ne]
      · exact q1
      · intro z; subst z
        have h4 := (List.getElem?_eq_some_iff.mp e2).1
        exact hk ((List.getElem?_inj h4 h.nd).mp (e2.trans e.symm))
theorem Step.set {k a : Nat} {c : Cell} (e : ρ[k]? = some a) : Step ρ ν st ρ ν (st.set a c) :=
  ⟨List.prefix_rfl, List.prefix_rfl, Gr.set (List.mem_of_getElem? e), fun _ h => .inl h⟩
theorem EnvIn.set (h : EnvIn U ev ρ ν env) {i : Nat} {t : Ty} {v : PV} (g : t.has U ρ ν v) : EnvIn U (ev.set i (some t)) ρ ν (env.set i (some v)) :=
  ⟨by simp [h.len], fun j t' e => by
    have hl := h.len
    by_cases hj : j = i
    · subst hj
      have hlt := (List.getElem?_eq_some_iff.mp e).1
      rw [List.length_set] at hlt
      rw [List.getElem?_set_self hlt] at e
      cases e
      exact ⟨v, List.getElem?_set_self (by omega), g⟩
    · rw [List.getElem?_set_ne (Ne.symm hj)] at e ⊢
      exact h.at_ j t' e⟩
end
def minO : Option Int → Option Int → Option Int
  | some a, some b => some (if a ≤ b then a else b)
  | _, _ => none
def maxO : Option Int → Option Int → Option Int
  | some a, some b => some (if a ≤ b then b else a)
  | _, _ => none
def Kd.lub (a b : Kd) : Kd := if a = b then a else .anl
def lenB : Ty → Option (Nat × Nat)
  | .str l h _ => some (l, h)
  | .cst s => some (s.length, s.length)
  | _ => none
def lub (us : US) (n m : Nat) : Nat → Ty → Ty → Ty
  | 0, _, _ => .any
  | k + 1, a, b =>
    if Ty.sub us n m 20 a b then b else if Ty.sub us n m 20 b a then a else
    let fold := fun (ts : List Ty) => match ts with
      | [] => Ty.non
      | t :: ts => ts.foldl (lub us n m k) t
    let two := fun (x y : Ty) => match Ty.bd us 30 x, Ty.bd us 30 y with
      | some (d, e), some (d', e') => Ty.dat (max d d') (max e e')
      | _, _ => Ty.or x y
    match a, b with
    | .int l h s, .int l' h' s' => .int (minO l l') (maxO h h') (if s = s' then s else .no)
    | .bl f t, .bl f' t' => .bl (f || f') (t || t')
    | .tup as, .tup bs => if as.length = bs.length then .tup (List.zipWith (lub us n m k) as bs) else .seq .tup (fold (as ++ bs)) (min as.length bs.length) (max as.length bs.length) none
    | .lst as, .lst bs => if as.length = bs.length then .lst (List.zipWith (lub us n m k) as bs) else .seq .lst (fold (as ++ bs)) (min as.length bs.length) (max as.length bs.length) none
    | .tup as, .seq .tup t l h _ => .seq .tup (fold (t :: as)) (min as.length l) (max as.length h) none
    | .seq .tup t l h _, .tup as => .seq .tup (fold (t :: as)) (min as.length l) (max as.length h) none
    | .lst as, .seq q t l h _ => .seq (q.lub .lst) (fold (t :: as)) (min as.length l) (max as.length h) none
    | .seq q t l h _, .lst as => .seq (q.lub .lst) (fold (t :: as)) (min as.length l) (max as.length h) none
    | .seq q t l h i, .seq q' t' l' h' i' => if (q = .tup) = (q' = .tup) then .seq (q.lub q') (if h = 0 then t' else if h' = 0 then t else lub us n m k t t') (min l l') (max h h') (if i = i' then i else none) else two a b
    | .dk ks as, .dk ks' bs => if ks = ks' then .dk ks (List.zipWith (lub us n m k) as bs) else two a b
    | _, _ => match lenB a, lenB b with
      | some (l, h), some (l', h') => .str (min l l') (max h h') none
      | _, _ => two a b
/-- a type in which all of these lie -/
def upC (us : US) (n m : Nat) : List Ty → Ty
  | [] => Ty.non
  | t :: ts => ts.foldl (lub us n m 12) t
def up (us : US) (n m : Nat) (ts : List Ty) : Option Ty := if ts.all (fun t => Ty.sub us n m 25 t (upC us n m ts)) then some (upC us n m ts) else none
def lubO (us : US) (n m : Nat) : Option Ty → Option Ty → Option Ty
  | some a, some b =>
    let c := lub us n m 12 a b
    if Ty.sub us n m 25 a c && Ty.sub us n m 25 b c then some c else none
  | _, _ => none
def leO1 (us : US) (n m : Nat) : Option Ty → Option Ty → Bool
  | _, none => true
  | some a, some b => Ty.sub us n m 25 a b
  | none, some _ => false
def allLe (f : Option Ty → Option Ty → Bool) : List (Option Ty) → List (Option Ty) → Bool
  | [], [] => true
  | a :: as, b :: bs => f a b && allLe f as bs
  | _, _ => false
def csLe (f : Ty → Ty → Bool) : List Ty → List Ty → Bool
  | _, [] => true
  | a :: as, b :: bs => f a b && csLe f as bs
  | [], _ :: _ => false
/-- the first lies in the second -/
def AS.le (us : US) (S T : AS) : Bool := decide (T.n ≤ S.n) && allLe (leO1 us T.cs.length T.n) S.ev T.ev && csLe (Ty.sub us T.cs.length T.n 25) S.cs T.cs
def csLub (us : US) (n m : Nat) : List Ty → List Ty → List Ty
  | a :: as, b :: bs => lub us n m 12 a b :: csLub us n m as bs
  | _, _ => []
/-- one in which both lie, no fewer cells than the base -/
def AS.join (us : US) (c n : Nat) (S T : AS) : Option AS :=
  let k := min S.cs.length T.cs.length
  let m := min S.n T.n
  let J : AS := ⟨List.zipWith (lubO us k m) S.ev T.ev, csLub us k m S.cs T.cs, m⟩
  if decide (c ≤ J.cs.length) && decide (n ≤ J.n) && S.le us J && T.le us J then some J else none
/-- the end of a call: its value's type, the cells -/
abbrev Rt := Ty × List Ty × Nat
def Rt.le (us : US) (r q : Rt) : Bool := decide (q.2.2 ≤ r.2.2) && Ty.sub us q.2.1.length q.2.2 25 r.1 q.1 && csLe (Ty.sub us q.2.1.length q.2.2 25) r.2.1 q.2.1
def Rt.join (us : US) (c n : Nat) (r q : Rt) : Option Rt :=
  let k := min r.2.1.length q.2.1.length
  let m := min r.2.2 q.2.2
  let J : Rt := (lub us k m 12 r.1 q.1, csLub us k m r.2.1 q.2.1, m)
  if decide (c ≤ J.2.1.length) && decide (n ≤ J.2.2) && r.le us J && q.le us J then some J else none
section
variable {U : UT} {us : US} {ρ ν : List Nat} {st : Sto} {env : Envp}
theorem csLe_ok {ρ' ν' : List Nat} {f : Ty → Ty → Bool} (hf : ∀ a b v, f a b = true → a.has U ρ ν v → b.has U ρ' ν' v) : ∀ {as bs : List Ty}, csLe f as bs = true → bs.length ≤ as.length ∧ ∀ (k : Nat) b, bs[k]? = some b → ∃ a, as[k]? = some a ∧ ∀ v, a.has U ρ ν v → b.has U ρ' ν' v
  | _, [], _ => ⟨Nat.zero_le _, fun k b e => by simp at e⟩
  | [], _ :: _, h => by cases h
  | a :: as, b :: bs, h => by
    simp only [csLe, Bool.and_eq_true] at h
    obtain ⟨h1, h2⟩ := csLe_ok hf h.2
    refine ⟨by simpa using h1, fun k c e => ?_⟩
    cases k with
    | zero => simp at e; subst e; exact ⟨a, by simp, fun v => hf _ _ v h.1⟩
    | succ k => simpa using h2 k c (by simpa using e)
theorem allLe_ok {ρ' ν' : List Nat} {f : Option Ty → Option Ty → Bool} (hf : ∀ a b, f a (some b) = true → ∃ a', a = some a' ∧ ∀ v, a'.has U ρ ν v → b.has U ρ' ν' v) : ∀ {as bs : List (Option Ty)}, allLe f as bs = true → bs.length = as.length ∧ ∀ (k : Nat) b, bs[k]? = some (some b) → ∃ a, as[k]? = some (some a) ∧ ∀ v, a.has U ρ ν v → b.has U ρ' ν' v
  | [], [], _ => ⟨rfl, fun k b e => by simp at e⟩
  | [], _ :: _, h => by cases h
  | _ :: _, [], h => by cases h
  | a :: as, b :: bs, h => by
    simp only [allLe, Bool.and_eq_true] at h
    obtain ⟨h1, h2⟩ := allLe_ok hf h.2
    refine ⟨by simpa using h1, fun k c e => ?_⟩
    cases k with
    | zero =>
      simp at e; subst e
      obtain ⟨a', rfl, q⟩ := hf _ _ h.1
      exact ⟨a', by simp, q⟩
    | succ k => simpa using h2 k c (by simpa using e)
theorem sto_take {cs cs' : List Ty} {n m : Nat} (I : StoIn U cs n ρ ν st) (hn : m ≤ n) (hl : cs'.length ≤ cs.length) (h : ∀ (k : Nat) b, cs'[k]? = some b → ∃ a, cs[k]? = some a ∧ ∀ v, a.has U ρ ν v → b.has U (ρ.take cs'.length) (ν.take m) v) :
    StoIn U cs' m (ρ.take cs'.length) (ν.take m) st where
  rl := by rw [List.length_take, I.rl]; omega
  nd := I.nd.sublist (List.take_sublist _ _)
  nl := by rw [List.length_take, I.nl]; omega
  at_ := fun k t a e1 e2 => by
    obtain ⟨t', q1, q2⟩ := h k t e1
    rw [List.getElem?_take] at e2
    split at e2
    · obtain ⟨xs, p1, p2⟩ := I.at_ k t' a q1 e2
      exact ⟨xs, p1, q2 _ p2⟩
    · cases e2
theorem AS.le_ok (ok : USok U us) {S T : AS} (h : S.le us T = true) (E : EnvIn U S.ev ρ ν env) (I : StoIn U S.cs S.n ρ ν st) :
    EnvIn U T.ev (ρ.take T.cs.length) (ν.take T.n) env ∧ StoIn U T.cs T.n (ρ.take T.cs.length) (ν.take T.n) st := by
  simp only [AS.le, Bool.and_eq_true, decide_eq_true_eq] at h
  obtain ⟨⟨h1, h2⟩, h3⟩ := h
  have hsub := fun (a b : Ty) (v : PV) => sub_ok (n := T.cs.length) (m := T.n) (ρ := ρ) (ν := ν) ok 25 a b v
  obtain ⟨l1, c1⟩ := csLe_ok hsub h3
  obtain ⟨l2, c2⟩ := allLe_ok (U := U) (ρ := ρ) (ν := ν) (ρ' := ρ.take T.cs.length) (ν' := ν.take T.n) (f := leO1 us T.cs.length T.n) (fun a b h => by
    cases a with
    | none => cases h
    | some a => exact ⟨a, rfl, fun v => hsub a b v h⟩) h2
  refine ⟨⟨by rw [E.len, l2], fun i t e => ?_⟩, sto_take I h1 l1 c1⟩
  obtain ⟨a, q1, q2⟩ := c2 i t e
  obtain ⟨v, q3, q4⟩ := E.at_ i a q1
  exact ⟨v, q3, q2 v q4⟩
theorem Step.take {ρ0 ν0 : List Nat} {st0 : Sto} {k m : Nat} (s : Step ρ0 ν0 st0 ρ ν st) (hk : ρ0.length ≤ k) (hm : ν0.length ≤ m) : Step ρ0 ν0 st0 (ρ.take k) (ν.take m) st where
  r := by
    obtain ⟨t, rfl⟩ := s.r
    rw [List.take_append]
    rw [List.take_of_length_le hk]
    exact List.prefix_append _ _
  n := by
    obtain ⟨t, rfl⟩ := s.n
    rw [List.take_append]
    rw [List.take_of_length_le hm]
    exact List.prefix_append _ _
  g := s.g
  f := fun a m => s.f a (List.mem_of_mem_take m)
theorem Rt.le_ok (ok : USok U us) {r q : Rt} {v : PV} (h : Rt.le us r q = true) (I : StoIn U r.2.1 r.2.2 ρ ν st) (g : r.1.has U ρ ν v) :
    StoIn U q.2.1 q.2.2 (ρ.take q.2.1.length) (ν.take q.2.2) st ∧ q.1.has U (ρ.take q.2.1.length) (ν.take q.2.2) v := by
  simp only [Rt.le, Bool.and_eq_true, decide_eq_true_eq] at h
  obtain ⟨⟨h1, h2⟩, h3⟩ := h
  have hsub := fun (a b : Ty) (v : PV) => sub_ok (n := q.2.1.length) (m := q.2.2) (ρ := ρ) (ν := ν) ok 25 a b v
  obtain ⟨l1, c1⟩ := csLe_ok hsub h3
  exact ⟨sto_take I h1 l1 c1, hsub _ _ v h2 g⟩
end
end Pv
namespace Pv
open PySem PySem.Spec L2
inductive SV where
  | fix (ts : List Ty) | rep (t : Ty) (lo hi : Nat)
def SV.has (U : UT) (ρ ν : List Nat) : SV → List PV → Prop
  | .fix ts, xs => Ty.hasL U ρ ν ts xs
  | .rep t lo hi, xs => lo ≤ xs.length ∧ xs.length ≤ hi ∧ ∀ x ∈ xs, t.has U ρ ν x
def SV.ty (q : Kd) : SV → Ty
  | .fix ts => match q with
    | .tup => .tup ts
    | _ => .lst ts
  | .rep t lo hi => match q with
    | .tup => .seq .tup t lo hi none
    | _ => .seq .lst t lo hi none
def SV.lo : SV → Nat
  | .fix ts => ts.length
  | .rep _ lo _ => lo
def SV.hi : SV → Nat
  | .fix ts => ts.length
  | .rep _ _ hi => hi
/-- in one type all of them -/
def SV.all (us : US) (c n : Nat) : SV → Option Ty
  | .fix ts => up us c n ts
  | .rep t _ _ => some t
def PostE (U : UT) (r : Rt) (ρ ν : List Nat) (st : Sto) (Q : PV → Sto → Prop) : Prop := ∀ ρ' ν' st' v, Step ρ ν st ρ' ν' st' → StoIn U r.2.1 r.2.2 ρ' ν' st' → r.1.has U ρ' ν' v → Q v st'
section
variable {U : UT} {us : US} {ρ ν : List Nat} {st : Sto} {cs : List Ty} {n : Nat} {Q : PV → Sto → Prop}
theorem PostE.pure {t : Ty} {v : PV} (h : PostE U (t, cs, n) ρ ν st Q) (I : StoIn U cs n ρ ν st) (g : t.has U ρ ν v) : Q v st := h _ _ _ _ .refl I g
end
def SV.app (us : US) (c n : Nat) (a b : SV) : Option SV := match a, b with
  | .fix ts, .fix us => some (.fix (ts ++ us))
  | a, b => match a.all us c n, b.all us c n with
    | some t, some t' => match up us c n [t, t'] with
      | some w => some (.rep (if a.hi = 0 then t' else if b.hi = 0 then t else w) (a.lo + b.lo) (a.hi + b.hi))
      | none => none
    | _, _ => none
def conO : Option Int → Option Int → Option Int
  | some a, some b => if a = b then some a else none
  | _, _ => none
def Sy.add : Sy → Option Int → Sy
  | .eq id off, some k => .eq id (off + k)
  | .lt id off, some k => .lt id (off + k)
  | _, _ => .no
def keyOf : Ty → Option Key
  | .cst s => some (.inr s)
  | .int l h _ => (conO l h).map .inl
  | _ => none
end Pv
namespace Pv
open PySem PySem.Spec L2
end Pv
namespace Pv
open PySem PySem.Spec L2 PySem.W
def SV.zip (us : US) (c n : Nat) : SV → SV → Option SV
  | .fix ts, .fix us => some (.fix ((ts.zip us).map fun p => .tup [p.1, p.2]))
  | a, b => match a.all us c n, b.all us c n with
    | some t, some t' => some (.rep (.tup [t, t']) (min a.lo b.lo) (min a.hi b.hi))
    | _, _ => none
def SV.rev : SV → SV
  | .fix ts => .fix ts.reverse
  | .rep t lo hi => .rep t lo hi
end Pv
namespace Pv
open PySem PySem.Spec L2
abbrev Pt := Option (Option Int × Option Int)
def Pt.ok : Pt → Option Int → Prop
  | none, o => o = none
  | some (a, b), o => ∃ i, o = some i ∧ geO a i ∧ leO b i
def SV.last (s : SV) : Option (Ty × SV) := match s with
  | .fix ts => match ts[ts.length - 1]? with
    | some t => some (t, .fix ts.dropLast)
    | none => none
  | .rep t lo hi => if 1 ≤ lo then some (t, .rep t (lo - 1) (hi - 1)) else none
end Pv
namespace Pv
open PySem PySem.Spec L2
abbrev BR := Option AS × Option AS
def BR.at (p : BR) (b : Bool) : Option AS := if b = true then p.1 else p.2
abbrev XR := Rt × Option BR
def below : Sy → Sy
  | .eq id off => .lt id off
  | _ => .no
def joinB (us : US) (S : AS) : Option AS → Option AS → Option (Option AS)
  | some a, some b => match AS.join us S.cs.length S.n a b with
    | some c => some (some c)
    | none => none
  | some a, none => some (some a)
  | none, b => some b
end Pv
namespace Pv
open PySem PySem.Spec L2
section
variable (U : UT)
def In (S : AS) (ρ ν : List Nat) (env : Envp) (st : Sto) : Prop := EnvIn U S.ev ρ ν env ∧ StoIn U S.cs S.n ρ ν st
def BrIn (p : BR) (b : Bool) (ρ ν : List Nat) (st : Sto) (env : Envp) (st' : Sto) : Prop := ∃ S ρ2 ν2, p.at b = some S ∧ Step ρ ν st ρ2 ν2 st' ∧ In U S ρ2 ν2 env st'
def PostX (r : XR) (ρ ν : List Nat) (st : Sto) (env : Envp) (Q : PV → Sto → Prop) : Prop := ∀ ρ' ν' st' v, Step ρ ν st ρ' ν' st' → StoIn U r.1.2.1 r.1.2.2 ρ' ν' st' → r.1.1.has U ρ' ν' v → (∀ p, r.2 = some p → ∃ b, v = .bl b ∧ BrIn U p b ρ ν st env st') → Q v st'
end
section
variable {U : UT} {us : US} {ρ ρ' ν ν' : List Nat} {st st' : Sto} {env : Envp} {S : AS}
theorem PostX.none {r : Rt} {v : PV} {Q : PV → Sto → Prop} (P : PostX U (r, none) ρ ν st env Q) (s : Step ρ ν st ρ' ν' st') (I : StoIn U r.2.1 r.2.2 ρ' ν' st') (g : r.1.has U ρ' ν' v) : Q v st' := P ρ' ν' st' v s I g nofun
theorem In.le (ok : USok U us) {T : AS} (h : S.le us T = true) (I : In U S ρ' ν' env st') (s : Step ρ ν st ρ' ν' st') (hc : ρ.length ≤ T.cs.length) (hn : ν.length ≤ T.n) : ∃ ρ2 ν2, Step ρ ν st ρ2 ν2 st' ∧ In U T ρ2 ν2 env st' :=
  ⟨_, _, s.take hc hn, AS.le_ok ok h I.1 I.2⟩
theorem Rt.to (ok : USok U us) {r J : Rt} {v : PV} (h : Rt.le us r J = true) (s : Step ρ ν st ρ' ν' st') (I : StoIn U r.2.1 r.2.2 ρ' ν' st') (g : r.1.has U ρ' ν' v) (hc : ρ.length ≤ J.2.1.length) (hn : ν.length ≤ J.2.2) : ∃ ρ2 ν2, Step ρ ν st ρ2 ν2 st' ∧ StoIn U J.2.1 J.2.2 ρ2 ν2 st' ∧ J.1.has U ρ2 ν2 v :=
  ⟨_, _, s.take hc hn, Rt.le_ok ok h I g⟩
end
end Pv
namespace Pv
open PySem PySem.Spec L2
end Pv
namespace Pv
open PySem PySem.Spec L2
end Pv
namespace Pv
open PySem PySem.Spec L2
structure Out where
  nx : Option AS
  rt : Option Rt
  bk : Option AS
  ct : Option AS
section
variable (U : UT)
def InO (ρ ν : List Nat) (st : Sto) (o : Option AS) (env : Envp) (st' : Sto) : Prop := ∃ S ρ2 ν2, o = some S ∧ Step ρ ν st ρ2 ν2 st' ∧ In U S ρ2 ν2 env st'
def RtO (ρ ν : List Nat) (st : Sto) (o : Option Rt) (v : PV) (st' : Sto) : Prop := ∃ r ρ2 ν2, o = some r ∧ Step ρ ν st ρ2 ν2 st' ∧ StoIn U r.2.1 r.2.2 ρ2 ν2 st' ∧ r.1.has U ρ2 ν2 v
/-- what is wanted holds at all ends -/
structure PostS (o : Out) (ρ ν : List Nat) (st : Sto) (D : EndsP) : Prop where
  nx : ∀ env' st', InO U ρ ν st o.nx env' st' → D.nx env' st'
  rt : ∀ v st', RtO U ρ ν st o.rt v st' → D.rt v st'
  bk : ∀ env' st', InO U ρ ν st o.bk env' st' → D.bk env' st'
  ct : ∀ env' st', InO U ρ ν st o.ct env' st' → D.ct env' st'
end
section
variable {U : UT} {us : US} {ρ ρ' ν ν' : List Nat} {st st' : Sto} {env : Envp} {S B : AS}
theorem InO.trans {o : Option AS} (s : Step ρ ν st ρ' ν' st') {env' : Envp} {st2 : Sto} (h : InO U ρ' ν' st' o env' st2) : InO U ρ ν st o env' st2 := let ⟨S, a, b, c, d, e⟩ := h; ⟨S, a, b, c, s.trans d, e⟩
theorem RtO.trans {o : Option Rt} (s : Step ρ ν st ρ' ν' st') {v : PV} {st2 : Sto} (h : RtO U ρ' ν' st' o v st2) : RtO U ρ ν st o v st2 := let ⟨S, a, b, c, d, e⟩ := h; ⟨S, a, b, c, s.trans d, e⟩
theorem PostS.step {o : Out} {D : EndsP} (P : PostS U o ρ ν st D) (s : Step ρ ν st ρ' ν' st') : PostS U o ρ' ν' st' D :=
  ⟨fun _ _ i => P.nx _ _ (i.trans s), fun _ _ i => P.rt _ _ (i.trans s), fun _ _ i => P.bk _ _ (i.trans s), fun _ _ i => P.ct _ _ (i.trans s)⟩
end
end Pv
namespace Pv
open PySem PySem.Spec L2
def small : Str := "abcdefghijklmnopqrstuvwxyz"
def great : Str := "ABCDEFGHIJKLMNOPQRSTUVWXYZ"
theorem small_len : small.length = 26 := by decide +kernel
theorem small_ok : PyData.strOk small = true := by decide +kernel
theorem great_ok : PyData.strOk great = true := by decide +kernel
/-- one to six signs, the first one of some, small ones behind -/
def Spelt (L s : Str) : Prop := ∃ c r, s.cps.toList = c :: r ∧ c ∈ L.cps.toList ∧ (∀ x ∈ r, x ∈ small.cps.toList) ∧ r.length ≤ 5
section
variable {L s : Str}
theorem len_list (s : Str) : s.cps.toList.length = s.length := by simp [Str.length]
theorem Spelt.len (h : Spelt L s) : 1 ≤ s.length ∧ s.length ≤ 6 := by
  obtain ⟨c, r, e, _, _, hr⟩ := h
  rw [← len_list, e, List.length_cons]; omega
theorem ok_mem {L : Str} (h : PyData.strOk L = true) {c : Nat} (m : c ∈ L.cps.toList) : c < 0x110000 := by
  have := Array.all_eq_true_iff_forall_mem.mp h c (Array.mem_toList_iff.mp m)
  simpa using this
theorem Spelt.ok (h : Spelt L s) (hL : PyData.strOk L = true) : PyData.strOk s = true := by
  obtain ⟨c, r, e, h1, h2, hr⟩ := h
  unfold PyData.strOk
  rw [Array.all_eq_true_iff_forall_mem]
  intro x m
  have m' : x ∈ s.cps.toList := Array.mem_toList_iff.mpr m
  rw [e] at m'
  rcases List.mem_cons.mp m' with rfl | m'
  · simpa using ok_mem hL h1
  · simpa using ok_mem small_ok (h2 x m')
theorem Spelt.good (h : Spelt L s) (hL : PyData.strOk L = true) : GoodS s := ⟨h.len.1, h.len.2, h.ok hL⟩
theorem cps_cut_hi (s : Str) (k : Nat) : (cutS s none (some (k : Int))).cps.toList = s.cps.toList.take k := by
  unfold cutS
  rw [HT.sIx_none, HT.sIx_nat, List.drop_zero, Nat.sub_zero]
  show (List.toArray _).toList = _
  rw [List.toList_toArray, ← len_list]
  by_cases h : k ≤ s.cps.toList.length
  · rw [Nat.min_eq_left h]
  · rw [Nat.min_eq_right (by omega), List.take_length, List.take_of_length_le (by omega)]
theorem cps_cut_lo (s : Str) (k : Nat) : (cutS s (some (k : Int)) none).cps.toList = s.cps.toList.drop k := by
  unfold cutS
  rw [HT.sIx_none, HT.sIx_nat]
  show (List.toArray _).toList = _
  rw [List.toList_toArray, ← len_list]
  by_cases h : k ≤ s.cps.toList.length
  · rw [Nat.min_eq_left h, List.take_of_length_le (by simp)]
  · rw [Nat.min_eq_right (by omega), List.drop_of_length_le (Nat.le_refl _), List.drop_of_length_le (by omega)]; simp
theorem cps_app (a b : Str) : (a ++ b).cps.toList = a.cps.toList ++ b.cps.toList := by rw [str_app]; simp
theorem Spelt.take (h : Spelt L s) {k : Nat} (hk : 1 ≤ k) : Spelt L (cutS s none (some (k : Int))) := by
  obtain ⟨c, r, e, h1, h2, hr⟩ := h
  obtain ⟨j, rfl⟩ : ∃ j, k = j + 1 := ⟨k - 1, by omega⟩
  refine ⟨c, r.take j, by rw [cps_cut_hi, e, List.take_succ_cons], h1, fun x m => h2 x (List.mem_of_mem_take m), ?_⟩
  rw [List.length_take]; omega
theorem Spelt.put (h : Spelt L s) {a : Nat} {c : Nat} (ha : a < s.length) (h0 : a = 0 → c ∈ L.cps.toList) (hp : 0 < a → c ∈ small.cps.toList) : Spelt L (cutS s none (some (a : Int)) ++ ⟨#[c]⟩ ++ cutS s (some ((a : Int) + 1)) none) := by
  obtain ⟨d, r, e, h1, h2, hr⟩ := h
  rw [← len_list, e, List.length_cons] at ha
  have e1 : (cutS s none (some (a : Int)) ++ ⟨#[c]⟩ ++ cutS s (some ((a : Int) + 1)) none).cps.toList = (d :: r).take a ++ [c] ++ (d :: r).drop (a + 1) := by
    rw [cps_app, cps_app, cps_cut_hi, e, show ((a : Int) + 1) = ((a + 1 : Nat) : Int) by omega, cps_cut_lo, e]
  cases a with
  | zero => exact ⟨c, r, by rw [e1]; simp, h0 rfl, h2, hr⟩
  | succ a =>
    refine ⟨d, r.take a ++ [c] ++ r.drop (a + 1), by rw [e1]; simp, h1, fun x m => ?_, ?_⟩
    · simp only [List.mem_append, List.mem_singleton] at m
      rcases m with (m | rfl) | m
      · exact h2 x (List.mem_of_mem_take m)
      · exact hp (by omega)
      · exact h2 x (List.mem_of_mem_drop m)
    · simp only [List.length_append, List.length_take, List.length_drop, List.length_singleton]; omega
end
theorem sum_ones : ∀ cs : List Nat, (cs.map ((fun x : Str => x.length) ∘ fun c => (⟨#[c]⟩ : Str))).sum = cs.length
  | [] => rfl
  | c :: cs => by
    rw [List.map_cons, List.sum_cons, sum_ones cs]
    show 1 + cs.length = _
    simp; omega
theorem join_signs : ∀ cs : List Nat, Str.join (Str.ofString "") (cs.map fun c => (⟨#[c]⟩ : Str)) = ⟨cs.toArray⟩
  | [] => rfl
  | [c] => rfl
  | c :: d :: cs => by
    have ih := join_signs (d :: cs)
    have e : Str.join (Str.ofString "") ((c :: d :: cs).map fun c => (⟨#[c]⟩ : Str)) = ⟨#[c]⟩ ++ Str.ofString "" ++ Str.join (Str.ofString "") ((d :: cs).map fun c => (⟨#[c]⟩ : Str)) := rfl
    rw [e, ih]
    have e0 : (Str.ofString "").cps = #[] := rfl
    rw [str_app, str_app, e0]
    simp
end Pv
namespace Pv
open PySem PySem.Spec L2
/-- a term, so deep, its names and unknowns spelt -/
def TOk : Nat → Trm → Prop
  | _, .u s => Spelt great s
  | 0, .f _ _ => False
  | d + 1, .f s as => Spelt small s ∧ as.length ≤ 3 ∧ ∀ a ∈ as, TOk d a
theorem TOk.u {d : Nat} {s : Str} : TOk d (.u s) ↔ Spelt great s := by cases d <;> exact Iff.rfl
theorem TOk.ok : ∀ {d : Nat} {t : Trm}, TOk d t → Trm.ok d t
  | d, .u s, h => Trm.ok_u.mpr ((TOk.u.mp h).good great_ok)
  | 0, .f s as, h => h.elim
  | d + 1, .f s as, h => ⟨h.1.good small_ok, h.2.1, fun a m => TOk.ok (h.2.2 a m)⟩
theorem TOk.up : ∀ {d e : Nat} {t : Trm}, TOk d t → d ≤ e → TOk e t
  | d, e, .u s, h, _ => TOk.u.mpr (TOk.u.mp h)
  | 0, _, .f _ _, h, _ => h.elim
  | d + 1, 0, .f s as, h, hl => by omega
  | d + 1, e + 1, .f s as, h, hl => ⟨h.1, h.2.1, fun a m => TOk.up (h.2.2 a m) (by omega)⟩
theorem TOk.arg {d : Nat} {t a : Trm} (h : TOk d t) (m : a ∈ t.args) : ∃ e, d = e + 1 ∧ TOk e a := by
  cases t with
  | u s => simp [Trm.args] at m
  | f s as =>
    cases d with
    | zero => exact h.elim
    | succ d => exact ⟨d, rfl, h.2.2 a m⟩
theorem cutL_hi {α : Type} (xs : List α) (k : Nat) : cutL xs none (some (k : Int)) = xs.take k := by
  unfold cutL
  rw [HT.sIx_none, HT.sIx_nat, List.drop_zero, Nat.sub_zero]
  by_cases h : k ≤ xs.length
  · rw [Nat.min_eq_left h]
  · rw [Nat.min_eq_right (by omega), List.take_length, List.take_of_length_le (by omega)]
def LeftOk (st : Sto) (l : Nat) : Prop := ∃ x : Int, st[l]? = some (.lst [.int x])
theorem LeftOk.gr {ds : List Nat} {st st' : Sto} {n : Nat} (h : LeftOk st n) (g : Gr ds st st') (hn : n ∉ ds) : LeftOk st' n := let ⟨a, e⟩ := h; ⟨a, g.2 _ _ hn e⟩
def fits (deep left : Int) : PV → Bool
  | .tup [_, .int c] => c == 0 || (decide (1 < deep) && decide (c ≤ left))
  | _ => false
end Pv
namespace Pv
open PySem PySem.Spec L2
/-- 0: a name, 1: an unknown, 2 + d: a term d deep -/
def U1 : UT
  | 0, v => ∃ s, v = .str s ∧ Spelt small s
  | 1, v => ∃ s, v = .str s ∧ Spelt great s
  | d + 2, v => ∃ t, v = Trm.p t ∧ TOk d t
def us1 : US where
  into := fun f a u => match a, u with
    | .usr 1, d + 2 => true
    | .usr (e + 2), d + 2 => decide (e ≤ d)
    | .tup (a :: ts), d + 3 => f a (.usr 0) && decide (ts.length ≤ 3) && ts.all (fun t => f t (.usr (d + 2)))
    | _, _ => false
  unf := fun u => match u with
    | 0 => .str 1 6 none
    | 1 => .str 1 6 none
    | d + 2 => .dat d (tmLen d)
theorem terms_of {d : Nat} : ∀ {xs : List PV}, (∀ x ∈ xs, ∃ t, x = Trm.p t ∧ TOk d t) → ∃ ts : List Trm, xs = Trm.ps ts ∧ ts.length = xs.length ∧ ∀ t ∈ ts, TOk d t
  | [], _ => ⟨[], by simp [Trm.ps], rfl, nofun⟩
  | x :: xs, h => by
    obtain ⟨ts, e1, e2, e3⟩ := terms_of (xs := xs) fun y m => h y (List.mem_cons_of_mem _ m)
    obtain ⟨t, e, ht⟩ := h x List.mem_cons_self
    exact ⟨t :: ts, by rw [Trm.ps, e, e1], by simp [e2], fun u m => (List.mem_cons.mp m).elim (fun z => by rw [z]; exact ht) (e3 u)⟩
theorem ok1 : USok U1 us1 where
  unf := fun u v ρ ν h => by
    match u, h with
    | 0, ⟨s, e, h⟩ => simp only [us1, Ty.has]; exact ⟨s, e, h.ok small_ok, h.len.1, h.len.2, trivial⟩
    | 1, ⟨s, e, h⟩ => simp only [us1, Ty.has]; exact ⟨s, e, h.ok great_ok, h.len.1, h.len.2, trivial⟩
    | d + 2, ⟨t, e, ht⟩ => subst e; simp only [us1, Ty.has]; exact ⟨Trm.isD t, Trm.dok ht.ok⟩
  into := fun f ρ ν ρ' ν' a u v hf h g => by
    simp only [us1] at h
    split at h
    · simp only [Ty.has, U1] at g
      obtain ⟨s, e, h⟩ := g
      exact ⟨.u s, e, TOk.u.mpr h⟩
    · simp only [Ty.has, U1] at g
      obtain ⟨t, e, ht⟩ := g
      simp only [decide_eq_true_eq] at h
      exact ⟨t, e, ht.up h⟩
    · rename_i a ts d
      simp only [Bool.and_eq_true, decide_eq_true_eq] at h
      obtain ⟨⟨h1, h2⟩, h3⟩ := h
      simp only [Ty.has, Ty.hasL] at g
      obtain ⟨xs, rfl, y, ys, rfl, gy, gys⟩ := g
      have hy := hf a (.usr 0) y h1 gy
      simp only [Ty.has, U1] at hy
      obtain ⟨s, rfl, hs⟩ := hy
      have hall := allL_ok (U := U1) (ρ := ρ) (ν := ν) (ρ' := ρ') (ν' := ν') (f := f) (t := .usr (d + 2)) hf h3 gys
      obtain ⟨us, e1, e2, e3⟩ := terms_of (d := d) (xs := ys) fun x m => by
        have := hall x m
        simp only [Ty.has, U1] at this
        exact this
      refine ⟨.f s us, by rw [e1]; rfl, hs, by rw [e2, hasL_len gys]; exact h2, e3⟩
    · cases h
def anyI : Ty := .int none none .no
def leftT : Ty := .lst [anyI]
section
variable {U : UT} {us : US} {ρ ν : List Nat} {st st' : Sto} {cs : List Ty} {n : Nat}
theorem left_is (a : Int) : leftT.has U ρ ν (.lst [.int a]) := by
  simp only [leftT, anyI, Ty.has, Ty.hasL]
  exact ⟨_, rfl, _, _, rfl, ⟨a, rfl, trivial, trivial, trivial⟩, rfl⟩
/-- cells that may be changed stand as their types behind -/
theorem StoIn.gr (I : StoIn U cs n ρ ν st) {ds : List Nat} (g : Gr ds st st') (h : ∀ (k : Nat) t a, cs[k]? = some t → ρ[k]? = some a → a ∈ ds → ∃ xs, st'[a]? = some (.lst xs) ∧ t.has U ρ ν (.lst xs)) : StoIn U cs n ρ ν st' where
  rl := I.rl
  nd := I.nd
  nl := I.nl
  at_ := fun k t a e1 e2 => by
    by_cases m : a ∈ ds
    · exact h k t a e1 e2 m
    · obtain ⟨xs, q1, q2⟩ := I.at_ k t a e1 e2
      exact ⟨xs, g.2 a _ m q1, q2⟩
theorem StoIn.retype (I : StoIn U cs n ρ ν st) {k a : Nat} {t : Ty} {xs : List PV} (e : ρ[k]? = some a) (h : st[a]? = some (.lst xs)) (g : t.has U ρ ν (.lst xs)) : StoIn U (cs.set k t) n ρ ν st where
  rl := by simp [I.rl]
  nd := I.nd
  nl := I.nl
  at_ := fun k' t' a' e1 e2 => by
    by_cases hk : k' = k
    · subst hk
      rw [e] at e2; cases e2
      have := (List.getElem?_eq_some_iff.mp e1).1
      rw [List.length_set] at this
      rw [List.getElem?_set_self this] at e1
      cases e1
      exact ⟨xs, h, g⟩
    · rw [List.getElem?_set_ne (Ne.symm hk)] at e1
      exact I.at_ k' t' a' e1 e2
theorem StoIn.left (I : StoIn U cs n ρ ν st) {k a : Nat} (e : ρ[k]? = some a) (d : LeftOk st a) : StoIn U (cs.set k leftT) n ρ ν st := by
  obtain ⟨x, h⟩ := d
  exact I.retype e h (left_is x)
theorem Step.gr {ds : List Nat} (g : Gr ds st st') (h : ∀ a ∈ ds, a ∈ ρ) : Step ρ ν st ρ ν st' := ⟨List.prefix_rfl, List.prefix_rfl, g.sub h, fun _ h => .inl h⟩
end
end Pv
namespace Pv
open PySem PySem.Spec L2
end Pv
namespace Pv
open PySem PySem.Spec L2
mutual
def parts : Trm → List (List Nat × Trm)
  | .u s => [([], .u s)]
  | .f s as => ([], .f s as) :: partsL 0 as
def partsL : Nat → List Trm → List (List Nat × Trm)
  | _, [] => []
  | k, a :: as => ((parts a).map fun p => (k :: p.1, p.2)) ++ partsL (k + 1) as
end
def cap : Nat → Nat
  | 0 => 1
  | d + 1 => 1 + 3 * cap d
def atT : Trm → List Nat → Option Trm
  | t, [] => some t
  | t, k :: s => match t.args[k]? with
    | some a => atT a s
    | none => none
theorem ps_set (as : List Trm) (k : Nat) (a : Trm) : (Trm.ps as).set k a.p = Trm.ps (as.set k a) := by
  rw [Trm.ps_map, Trm.ps_map, List.map_set]
end Pv
namespace Pv
open PySem PySem.Spec L2
/-- the text's length of a term d deep, three right in it -/
def tmB : Nat → Nat
  | 0 => 62
  | d + 1 => 3 * tmB d + 73
theorem tmB_ge : ∀ d, 62 ≤ tmB d
  | 0 => Nat.le_refl _
  | d + 1 => by unfold tmB; have := tmB_ge d; omega
theorem tl_str {s : Str} (h : GoodS s) : tl (.str s) ≤ 62 := by simp only [tl]; have := h.2.1; omega
theorem Trm.len : ∀ {d : Nat} {t : Trm}, Trm.ok d t → tl (dat t.p) ≤ tmB d
  | d, .u s, h => by
    simp only [Trm.p, dat]
    exact Nat.le_trans (tl_str (Trm.ok_u.mp h)) (tmB_ge d)
  | 0, .f _ _, h => h.elim
  | d + 1, .f s as, h => by
    simp only [Trm.p, dat, dats, tl, tls]
    have h1 := tl_str h.1
    have h2 : tls (dats (Trm.ps as)) ≤ (tmB d + 2) * as.length := by
      rw [dats_map, Trm.ps_map, List.map_map]
      exact tls_map (dat ∘ Trm.p) (tmB d) as fun a m => Trm.len (h.2.2 a m)
    have h3 : (tmB d + 2) * as.length ≤ (tmB d + 2) * 3 := Nat.mul_le_mul_left _ h.2.1
    simp only [tl] at h1
    unfold tmB
    omega
theorem Trm.dokL {d n : Nat} {t : Trm} (h : Trm.ok d t) (hn : tl (dat t.p) ≤ n) : DOk d n (dat t.p) := ⟨(Trm.dok h).lay, (Trm.dok h).deep, (Trm.dok h).show_, hn⟩
end Pv
namespace Pv
open PySem PySem.Spec L2
theorem ne_same {a : Str} {st : Sto} {Q : PV → Sto → Prop} (q : Q (.bl false) st) : neA (.str a) (.str a) st Q := by
  rw [r_nes]; simpa using q
theorem eq_same {a : Str} {st : Sto} {Q : PV → Sto → Prop} (q : Q (.bl true) st) : eqA (.str a) (.str a) st Q := by
  rw [r_eqs]; simpa using q
end Pv
namespace Pv
open PySem PySem.Spec L2
def isLet (c : Nat) : Prop := c ∈ small.cps.toList ∨ c ∈ great.cps.toList
/-- what stands behind a term -/
def Delim (post : List Nat) : Prop := post = [] ∨ ∃ c r, post = c :: r ∧ (c = 41 ∨ c = 44)
/-- what stands behind a word -/
def Stop (post : List Nat) : Prop := ∀ c r, post = c :: r → ¬ isLet c
theorem let_not {c : Nat} (h : isLet c) : c ≠ 40 ∧ c ≠ 41 ∧ c ≠ 44 := by
  have h1 : ∀ c ∈ small.cps.toList, c ≠ 40 ∧ c ≠ 41 ∧ c ≠ 44 := by decide +kernel
  have h2 : ∀ c ∈ great.cps.toList, c ≠ 40 ∧ c ≠ 41 ∧ c ≠ 44 := by decide +kernel
  exact h.elim (h1 c) (h2 c)
theorem Delim.stop {p : List Nat} (h : Delim p) : Stop p := by
  rintro c r rfl hc
  rcases h with h | ⟨c', r', e, h⟩
  · cases h
  · cases e
    have := let_not hc
    omega
theorem Spelt.let {L s : Str} (hL : ∀ c ∈ L.cps.toList, isLet c) (h : Spelt L s) : ∀ c ∈ s.cps.toList, isLet c := by
  obtain ⟨c, r, e, h1, h2, _⟩ := h
  intro x m
  rw [e] at m
  rcases List.mem_cons.mp m with rfl | m
  · exact hL _ h1
  · exact .inl (h2 x m)
end Pv
namespace Pv
open PySem PySem.Spec L2
mutual
def Trm.size : Trm → Nat
  | .u _ => 1
  | .f _ as => 1 + Trm.sizes as
def Trm.sizes : List Trm → Nat
  | [] => 0
  | a :: as => a.size + Trm.sizes as
end
theorem Trm.size_pos (t : Trm) : 1 ≤ t.size := by cases t <;> simp only [Trm.size] <;> omega
/-- so deep, so great -/
def TZ (d n : Nat) (t : Trm) : Prop := TOk d t ∧ t.size ≤ n
theorem TZ.up {d n e m : Nat} {t : Trm} (h : TZ d n t) (h1 : d ≤ e) (h2 : n ≤ m) : TZ e m t := ⟨h.1.up h1, Nat.le_trans h.2 h2⟩
mutual
theorem Trm.tlz : ∀ {d : Nat} {t : Trm}, Trm.ok d t → tl (dat t.p) + 2 ≤ 70 * t.size
  | d, .u s, h => by
    have := (Trm.ok_u.mp h).2.1
    simp only [Trm.p, dat, tl, Trm.size]; omega
  | 0, .f _ _, h => h.elim
  | d + 1, .f s as, h => by
    have h1 := h.1.2.1
    have h2 := Trm.tlzs h.2.2
    simp only [Trm.p, dat, dats, tl, tls, Trm.size]; omega
theorem Trm.tlzs : ∀ {d : Nat} {as : List Trm}, (∀ a ∈ as, Trm.ok d a) → tls (dats (Trm.ps as)) ≤ 70 * Trm.sizes as
  | _, [], _ => Nat.le_refl _
  | d, a :: as, h => by
    have h1 := Trm.tlz (h a List.mem_cons_self)
    have h2 := Trm.tlzs fun b m => h b (List.mem_cons_of_mem _ m)
    have := a.size_pos
    simp only [Trm.ps, dats, tls, Trm.sizes]; omega
end
end Pv
namespace Pv
open PySem PySem.Spec L2 PySem.W PyProof.Rows
theorem datS_isD {x : PV} {st : Sto} (hx : isD x = true) : datS st x = some (dat x) := by
  cases x with
  | dk _ _ => simp only [isD] at hx; cases hx
  | ptp _ => simp only [isD] at hx; cases hx
  | fn _ => simp only [isD] at hx; cases hx
  | ins _ _ _ => simp only [isD] at hx; cases hx
  | ref _ => simp only [isD] at hx; cases hx
  | _ => simp only [datS, hx, if_true]
theorem isDs_of : ∀ {xs : List PV}, (∀ x ∈ xs, isD x = true) → isDs xs = true
  | [], _ => rfl
  | x :: xs, h => by simp only [isDs, h x List.mem_cons_self, isDs_of fun y m => h y (List.mem_cons_of_mem _ m), Bool.and_self]
theorem sortP_srt (ys : List PV) : (sortP ys).Pairwise fun a b => leP a b = true := sort_pairwise (sortLe_total (listOrd itemOrd) false fun y : PV => keyToks (dat y)) ys
def spots (t : Trm) : List (List Nat) := (parts t).map (·.1)
mutual
def Trm.unks : Trm → List Str
  | .u s => [s]
  | .f _ as => Trm.unksL as
def Trm.unksL : List Trm → List Str
  | [] => []
  | a :: as => a.unks ++ Trm.unksL as
end
theorem Trm.unksL_flat : ∀ as : List Trm, Trm.unksL as = as.flatMap Trm.unks
  | [] => rfl
  | a :: as => by rw [Trm.unksL, Trm.unksL_flat as, List.flatMap_cons]
end Pv
namespace Pv
open PySem PySem.Spec L2
theorem TZ.dok {d n : Nat} {t : Trm} (h : TZ d n t) : DOk d (70 * n) (dat t.p) :=
  Trm.dokL h.1.ok (by have := Trm.tlz h.1.ok; have := h.2; have : 70 * t.size ≤ 70 * n := Nat.mul_le_mul_left _ h.2; omega)
end Pv
namespace Pv
open PySem PySem.Spec L2
abbrev Tab := List (Str × Trm)
def lkT : Tab → Str → Option Trm
  | [], _ => none
  | (a, t) :: T, s => if a = s then some t else lkT T s
theorem lkT_app (T U : Tab) (s : Str) : lkT (T ++ U) s = (lkT T s).or (lkT U s) := by
  induction T with
  | nil => rfl
  | cons p T ih =>
    obtain ⟨a, t⟩ := p
    simp only [List.cons_append, lkT]
    split
    · rfl
    · exact ih
noncomputable def deq (a b : Trm) : Bool := @decide (a = b) (Classical.propDecidable _)
mutual
/-- gone through all parts -/
noncomputable def pm : Trm → Trm → Tab → Bool × Tab
  | .u s, t, T => match lkT T s with
    | some x => (deq x t, T)
    | none => (true, T ++ [(s, t)])
  | .f _ _, .u _, T => (false, T)
  | .f a as, .f b bs, T => if a = b ∧ as.length = bs.length then pmL as bs T else (false, T)
noncomputable def pmL : List Trm → List Trm → Tab → Bool × Tab
  | a :: as, b :: bs, T => ((pm a b T).1 && (pmL as bs (pm a b T).2).1, (pmL as bs (pm a b T).2).2)
  | [], _, T => (true, T)
  | _ :: _, [], T => (true, T)
end
/-- what comes in: unknowns of the pattern, with parts of the term -/
structure Come (us : List Str) (P : Trm → Prop) (n : Nat) (T T' : Tab) : Prop where
  pre : ∃ U, T' = T ++ U ∧ U.length ≤ n ∧ ∀ q ∈ U, q.1 ∈ us ∧ P q.2
  nd : (T.map (·.1)).Nodup → (T'.map (·.1)).Nodup
theorem Come.refl {us : List Str} {P : Trm → Prop} {n : Nat} {T : Tab} : Come us P n T T := ⟨⟨[], by simp, by simp, nofun⟩, id⟩
theorem Come.trans {us : List Str} {P : Trm → Prop} {n m : Nat} {A B C : Tab} (h : Come us P n A B) (g : Come us P m B C) : Come us P (n + m) A C := by
  obtain ⟨⟨U, e1, l1, q1⟩, n1⟩ := h
  obtain ⟨⟨V, e2, l2, q2⟩, n2⟩ := g
  refine ⟨⟨U ++ V, by rw [e2, e1, List.append_assoc], by rw [List.length_append]; omega, fun q m => (List.mem_append.mp m).elim (q1 q) (q2 q)⟩, fun z => n2 (n1 z)⟩
theorem Come.mono {us vs : List Str} {P R : Trm → Prop} {n m : Nat} {A B : Tab} (h : Come us P n A B) (hu : ∀ s ∈ us, s ∈ vs) (hP : ∀ t, P t → R t) (hn : n ≤ m) : Come vs R m A B := by
  obtain ⟨⟨U, e1, l1, q1⟩, n1⟩ := h
  exact ⟨⟨U, e1, by omega, fun q m => ⟨hu _ (q1 q m).1, hP _ (q1 q m).2⟩⟩, n1⟩
def Sub (A V : Tab) : Prop := ∀ s x, lkT A s = some x → lkT V s = some x
theorem Come.sub {us : List Str} {P : Trm → Prop} {n : Nat} {A B V : Tab} (h : Come us P n A B) (g : Sub B V) : Sub A V := by
  obtain ⟨⟨U, e, _, _⟩, _⟩ := h
  intro s x hx
  refine g s x ?_
  rw [e, lkT_app, hx]; rfl
end Pv
namespace Pv
open PySem PySem.Spec L2
theorem rgP_drop {N i : Nat} (h : i < N) : (rgP 0 N).drop i = PV.int (i : Nat) :: (rgP 0 N).drop (i + 1) := by
  have hl : i < (rgP 0 N).length := by rw [rgP_len]; exact h
  rw [List.drop_eq_getElem_cons hl]
  congr 1
  simp [rgP]
theorem for_range {g : WG} {tb : WS} {D : EndsP} {P : Nat → Envp → Sto → Prop} {N : Nat} (hend : ∀ env st, P N env st → D.nx env st)
    (hstep : ∀ (i : Nat) env st (K : Envp → Sto → Prop), i < N → P i env st → (∀ env' st', P (i + 1) env' st' → K env' st') → g (.int (i : Nat)) env st fun env2 st2 => tb { D with nx := K, ct := K, bk := D.nx } env2 st2) {env : Envp} {st : Sto} (h0 : P 0 env st) : forGo (fun _ => True) g tb D (rgP 0 N) env st := by
  have key : ∀ (m i : Nat) env st, i + m = N → P i env st → forGo (fun _ => True) g tb D ((rgP 0 N).drop i) env st := by
    intro m
    induction m with
    | zero =>
      intro i env st e p
      have : (rgP 0 N).drop i = [] := List.drop_of_length_le (by rw [rgP_len]; omega)
      rw [this]
      have e : i = N := by omega
      subst e
      exact ⟨trivial, hend env st p⟩
    | succ m ih =>
      intro i env st e p
      rw [rgP_drop (by omega)]
      exact ⟨trivial, hstep i env st _ (by omega) p fun env' st' p' => ih (i + 1) env' st' (by omega) p'⟩
  simpa using key N 0 env st (by omega) h0
abbrev Sg := List (Str × Nat)
def TE (sg : Sg) : Nat → Trm → Prop
  | _, .u s => Spelt great s
  | 0, .f _ _ => False
  | d + 1, .f s as => (s, as.length) ∈ sg ∧ ∀ a ∈ as, TE sg d a
theorem TE.u {sg : Sg} {d : Nat} {s : Str} : TE sg d (.u s) ↔ Spelt great s := by cases d <;> exact Iff.rfl
theorem TE.tok {sg : Sg} (hs : ∀ p ∈ sg, Spelt small p.1 ∧ p.2 ≤ 3) : ∀ {d : Nat} {t : Trm}, TE sg d t → TOk d t
  | d, .u s, h => TOk.u.mpr (TE.u.mp h)
  | 0, .f s as, h => h.elim
  | d + 1, .f s as, h => ⟨(hs _ h.1).1, (hs _ h.1).2, fun a m => TE.tok hs (h.2 a m)⟩
theorem TE.up {sg : Sg} : ∀ {d e : Nat} {t : Trm}, TE sg d t → d ≤ e → TE sg e t
  | d, e, .u s, h, _ => TE.u.mpr (TE.u.mp h)
  | 0, _, .f _ _, h, _ => h.elim
  | d + 1, 0, .f s as, h, hl => by omega
  | d + 1, e + 1, .f s as, h, hl => ⟨h.1, fun a m => TE.up (h.2 a m) (by omega)⟩
theorem TE.mono {sg sg' : Sg} (hs : ∀ p ∈ sg, p ∈ sg') : ∀ {d : Nat} {t : Trm}, TE sg d t → TE sg' d t
  | d, .u s, h => TE.u.mpr (TE.u.mp h)
  | 0, .f s as, h => h.elim
  | d + 1, .f s as, h => ⟨hs _ h.1, fun a m => TE.mono hs (h.2 a m)⟩
theorem TE.arg {sg : Sg} {d : Nat} {t a : Trm} (h : TE sg d t) (m : a ∈ t.args) : ∃ e, d = e + 1 ∧ TE sg e a := by
  cases t with
  | u s => simp [Trm.args] at m
  | f s as =>
    cases d with
    | zero => exact h.elim
    | succ d => exact ⟨d, rfl, h.2 a m⟩
end Pv
namespace Pv
open PySem PySem.Spec L2
end Pv
namespace Pv
open PySem PySem.Spec L2
end Pv
namespace Pv
open PySem PySem.Spec L2
/-- a comprehension with one name and no condition, counted -/
theorem lc_mapI {gd : Sto → Prop} {i : Nat} {te : WE} {env : Envp} (ds : List Nat) (N : Nat) (I : Nat → Sto → Prop) (P : PV → PV → Prop) (hg : ∀ j st, I j st → gd st) : ∀ (items acc : List PV) (j : Nat) (st : Sto) (kk : List PV → Sto → Prop),
    (∀ x ∈ items, ∀ j st Q, j < N → I j st → (∀ y st', P x y → I (j + 1) st' → Gr ds st st' → Q y st') → te (env.set i (some x)) st Q) → I j st → j + items.length ≤ N → acc.length + items.length ≤ sizeLine →
    (∀ ys st', All2 P items ys → I (j + items.length) st' → Gr ds st st' → kk (acc ++ ys) st') → lcGo gd (gNm i) tYesP te env items acc st kk
  | [], acc, j, st, kk, _, hI, _, _, k => ⟨hg j st hI, by simpa using k [] st .nil hI .refl⟩
  | x :: xs, acc, j, st, kk, h, hI, hN, hl, k => by
    refine ⟨hg j st hI, ?_⟩
    simp only [gNm, tYesP, if_true]
    simp only [List.length_cons] at hl hN
    refine h x List.mem_cons_self j st _ (by omega) hI fun y st' p hI' g => ⟨by omega, ?_⟩
    refine lc_mapI ds N I P hg xs (acc ++ [y]) (j + 1) st' kk (fun z m => h z (List.mem_cons_of_mem _ m)) hI' (by omega) (by simp; omega) fun ys st2 a hI2 g2 => ?_
    have := k (y :: ys) st2 (.cons p a) (by rw [List.length_cons, show j + (xs.length + 1) = j + 1 + xs.length by omega]; exact hI2) (g.trans g2)
    simpa using this
/-- a for over what is listed, by what is done -/
theorem for_ix {α : Type} {gd : Sto → Prop} {g : WG} {tb : WS} {D : EndsP} (gg : α → PV) {as : List α} {I : List α → Envp → Sto → Prop} (hg : ∀ done env st, I done env st → gd st) (hD : ∀ env st, I as env st → D.nx env st)
    (step : ∀ (done : List α) (x : α) (rest : List α), as = done ++ x :: rest → ∀ (env : Envp) (st : Sto) (K : Envp → Sto → Prop), I done env st → (∀ env' st', I (done ++ [x]) env' st' → K env' st') → g (gg x) env st fun env2 st2 => tb { D with nx := K, ct := K, bk := D.nx } env2 st2)
    {env : Envp} {st : Sto} (h0 : I [] env st) : forGo gd g tb D (as.map gg) env st := by
  have key : ∀ (rest done : List α) env st, as = done ++ rest → I done env st → forGo gd g tb D (rest.map gg) env st := by
    intro rest
    induction rest with
    | nil =>
      intro done env st e i
      rw [List.append_nil] at e
      subst e
      exact ⟨hg _ _ _ i, hD _ _ i⟩
    | cons x rest ih =>
      intro done env st e i
      exact ⟨hg _ _ _ i, step done x rest e env st _ i fun env' st' i' => ih (done ++ [x]) env' st' (by rw [e]; simp) i'⟩
  exact key as [] env st rfl h0
def DkC (st : Sto) (n m : Nat) : Prop := ∃ (a b : Int) (c : Nat), st[n]? = some (.lst [.int a, .int b, .int (c : Nat)]) ∧ c ≤ m
theorem DkC.gr {ds : List Nat} {st st' : Sto} {n m : Nat} (h : DkC st n m) (g : Gr ds st st') (hn : n ∉ ds) : DkC st' n m := let ⟨a, b, c, e, l⟩ := h; ⟨a, b, c, g.2 _ _ hn e, l⟩
theorem DkC.gr0 {st st' : Sto} {n m : Nat} (h : DkC st n m) (g : Gr [] st st') : DkC st' n m := h.gr g (by simp)
theorem DkC.up {st : Sto} {n m m' : Nat} (h : DkC st n m) (hm : m ≤ m') : DkC st n m' := let ⟨a, b, c, e, l⟩ := h; ⟨a, b, c, e, by omega⟩
theorem DkC.lt {st : Sto} {n m : Nat} (h : DkC st n m) : n < st.length := let ⟨_, _, _, e, _⟩ := h; (List.getElem?_eq_some_iff.mp e).1
def TU (sg : Sg) (us : List Str) (d : Nat) (t : Trm) : Prop := TE sg d t ∧ ∀ s ∈ t.unks, s ∈ us
theorem TU.up {sg : Sg} {us vs : List Str} {d e : Nat} {t : Trm} (h : TU sg us d t) (hd : d ≤ e) (hu : ∀ s ∈ us, s ∈ vs) : TU sg vs e t := ⟨h.1.up hd, fun s m => hu s (h.2 s m)⟩
theorem TU.f {sg : Sg} {us : List Str} {d : Nat} {s : Str} {as : List Trm} (h : (s, as.length) ∈ sg) (ha : ∀ a ∈ as, TU sg us d a) : TU sg us (d + 1) (.f s as) :=
  ⟨⟨h, fun a m => (ha a m).1⟩, fun x m => by
    simp only [Trm.unks] at m
    rw [Trm.unksL_flat] at m
    obtain ⟨a, ma, mx⟩ := List.mem_flatMap.mp m
    exact (ha a ma).2 x mx⟩
theorem TU.u {sg : Sg} {us : List Str} {d : Nat} {s : Str} (h : Spelt great s) (m : s ∈ us) : TU sg us d (.u s) := ⟨TE.u.mpr h, fun x mx => by simp only [Trm.unks, List.mem_singleton] at mx; subst mx; exact m⟩
theorem small_nth {i : Nat} (h : i < 26) : ∃ c, small.cps.toList[i]? = some c ∧ c ∈ small.cps.toList := by
  have hl : small.cps.toList.length = 26 := by rw [len_list]; exact small_len
  exact ⟨small.cps.toList[i]'(by omega), List.getElem?_eq_getElem _, List.getElem_mem _⟩
theorem small_nth_inj {i j c : Nat} (h : small.cps.toList[i]? = some c) (g : small.cps.toList[j]? = some c) : i = j := by
  have hn : small.cps.toList.Nodup := by decide +kernel
  obtain ⟨q, _⟩ := List.getElem?_eq_some_iff.mp h
  exact (List.getElem?_inj q hn).mp (h.trans g.symm)
end Pv
namespace Pv
open PySem PySem.Spec L2
end Pv
namespace Pv
open PySem PySem.Spec L2
end Pv
namespace Pv
open PySem PySem.Spec L2
theorem ints_layZ : ∀ s : List Int, PyData.canLayAll0 (dats (pInts s)) = true ∧ PyData.depthAll (dats (pInts s)) = 0
  | [] => ⟨rfl, rfl⟩
  | k :: s => by
    obtain ⟨h1, h2⟩ := ints_layZ s
    simp only [pInts] at h1 h2
    simp only [pInts, List.map_cons, dats, dat, PyData.canLayAll0, PyData.canLay0, PyData.depthAll, PyData.depth, h1, h2]
    exact ⟨rfl, rfl⟩
theorem ints_isDZ : ∀ s : List Int, isDs (pInts s) = true
  | [] => rfl
  | k :: s => by
    have ih := ints_isDZ s
    simp only [pInts] at ih
    simp only [pInts, List.map_cons, isDs, isD, ih, Bool.and_self]
end Pv
namespace Pv
open PySem PySem.Spec L2
def noR : PV → Bool
  | .ref _ | .ptp _ | .fn _ | .ins _ _ _ => false
  | _ => true
def spB (L s : Str) : Bool := match s.cps.toList with
  | [] => false
  | c :: r => decide (r.length ≤ 5) && (decide (c ∈ L.cps.toList) && r.all fun x => decide (x ∈ small.cps.toList))
def spV (L : Str) : PV → Bool
  | .str s => spB L s
  | _ => false
theorem cps_inj {a b : Str} (h : a.cps.toList = b.cps.toList) : a = b := by
  obtain ⟨a⟩ := a
  obtain ⟨b⟩ := b
  have : a = b := Array.toList_inj.mp h
  rw [this]
def GD (d : Nat) (x : PV) : Prop := isD x = true ∧ DOk d 5000000 (dat x)
theorem isDs_el : ∀ {xs : List PV} {x : PV}, isDs xs = true → x ∈ xs → isD x = true
  | y :: ys, x, h, m => by
    simp only [isDs, Bool.and_eq_true] at h
    rcases List.mem_cons.mp m with rfl | m
    · exact h.1
    · exact isDs_el h.2 m
theorem tls_el : ∀ {ds : List PyData} {d : PyData}, d ∈ ds → tl d ≤ tls ds
  | y :: ys, d, m => by
    simp only [tls]
    rcases List.mem_cons.mp m with rfl | m
    · omega
    · have := tls_el m; omega
theorem lay_el : ∀ {ds : List PyData} {d : PyData}, PyData.canLayAll0 ds = true → d ∈ ds → d.canLay0 = true
  | y :: ys, d, h, m => by
    simp only [PyData.canLayAll0, Bool.and_eq_true] at h
    rcases List.mem_cons.mp m with rfl | m
    · exact h.1
    · exact lay_el h.2 m
theorem show_el : ∀ {ds : List PyData} {d : PyData}, PyData.showableAll ds = true → d ∈ ds → d.showable = true
  | y :: ys, d, h, m => by
    simp only [PyData.showableAll, Bool.and_eq_true] at h
    rcases List.mem_cons.mp m with rfl | m
    · exact h.1
    · exact show_el h.2 m
theorem deep_el : ∀ {ds : List PyData} {d : PyData}, d ∈ ds → d.depth ≤ PyData.depthAll ds
  | y :: ys, d, m => by
    simp only [PyData.depthAll]
    rcases List.mem_cons.mp m with rfl | m
    · omega
    · have := deep_el m; omega
theorem GD.el {d : Nat} {xs : List PV} (h : GD d (.tup xs)) : ∃ e, d = e + 1 ∧ ∀ x ∈ xs, GD e x := by
  obtain ⟨h1, h2⟩ := h
  simp only [isD] at h1
  simp only [dat] at h2
  have hd := h2.deep
  simp only [PyData.depth] at hd
  have hl := h2.lay
  simp only [PyData.canLay0] at hl
  have hs := h2.show_
  simp only [PyData.showable] at hs
  have hz := h2.len
  simp only [tl] at hz
  refine ⟨d - 1, by omega, fun x m => ⟨isDs_el h1 m, ?_⟩⟩
  have m' : dat x ∈ dats xs := by rw [dats_map]; exact List.mem_map_of_mem m
  have a1 := deep_el m'
  have a2 := tls_el m'
  exact ⟨lay_el hl m', by omega, show_el hs m', by omega⟩
theorem GD.noR {d : Nat} {x : PV} (h : GD d x) : Pv.noR x = true := by
  cases x with
  | ref n => have := h.1; simp only [isD] at this; cases this
  | ptp n => have := h.1; simp only [isD] at this; cases this
  | fn _ => have := h.1; simp only [isD] at this; cases this
  | ins _ _ _ => have := h.1; simp only [isD] at this; cases this
  | _ => rfl
theorem GD.up {d e : Nat} {x : PV} (h : GD d x) (hd : d ≤ e) : GD e x := ⟨h.1, h.2.mono hd (Nat.le_refl _)⟩
theorem GD.str {d : Nat} {s : Str} (h : GD d (.str s)) : s.length ≤ 500000 := by
  have := h.2.len
  simp only [dat, tl] at this
  omega
theorem lc_bls {gd : Sto → Prop} {g : WG} {te : WE} {env : Envp} {st : Sto} (f : PV → Bool) : ∀ (items : List PV) (acc : List Bool) (kk : List PV → Sto → Prop), gd st →
    (∀ y ∈ items, ∀ Q : PV → Sto → Prop, Q (.bl (f y)) st → g y env st fun env2 st2 => te env2 st2 Q) → acc.length + items.length ≤ sizeLine → kk (pBls (acc ++ items.map f)) st → lcGo gd g tYesP te env items (pBls acc) st kk
  | [], acc, kk, hg, _, _, k => ⟨hg, by simpa using k⟩
  | y :: ys, acc, kk, hg, h, hl, k => by
    refine ⟨hg, ?_⟩
    simp only [List.length_cons] at hl
    simp only [tYesP, if_true]
    refine h y List.mem_cons_self _ ⟨by simp only [pBls, List.length_map]; omega, ?_⟩
    have e : pBls acc ++ [PV.bl (f y)] = pBls (acc ++ [f y]) := by simp [pBls]
    rw [e]
    refine lc_bls f ys _ kk hg (fun z m => h z (List.mem_cons_of_mem _ m)) (by simp; omega) ?_
    simpa using k
theorem all_r {bs : List Bool} {st : Sto} {Q : PV → Sto → Prop} (q : Q (.bl (bs.all id)) st) : allR [.lst (pBls bs)] st Q := ⟨_, bs, rfl, rfl, q⟩
end Pv
namespace Pv
open PySem PySem.Spec L2
/-- x is a def of the module, at f, that keeps S, where level k is left -/
structure CalleeA (P : Program) (w : World) (K : PySem.W.Frag) (mg : Str → Option Value) (base : Heap) (k : Nat) (x : Str) (f : Addr) (n : Nat) (S : Spc) : Prop where
  ex : ∃ fd ps, FnG P w K mg base k f fd ps (spOf K n S) ∧ mg x = some (.ref f) ∧ PySem.W.keepIn K (.ref f) = true ∧ Binds K fd ps []
theorem CalleeA.at_ {P : Program} {w : World} {K : PySem.W.Frag} {mg : Str → Option Value} {base : Heap} {k : Nat} {x : Str} {f : Addr} {n : Nat} {S : Spc} (C : CalleeA P w K mg base k x f n S) : mg x = some (.ref f) := by
  obtain ⟨fd, ps, _, h, _⟩ := C.ex
  exact h
open HT
end Pv
namespace Pv
open PySem PySem.Spec L2
/-- the method m of class C, which keeps S where level k is left -/
structure MethC (P : Program) (w : World) (K : PySem.W.Frag) (mg : Str → Option Value) (base : Heap) (k : Nat) (C : Addr) (m : Str) (n : Nat) (S : Spc) : Prop where
  ex : ∃ f fd ps, FnG P w K mg base k f fd ps (spOf K n S) ∧ Meth K C m f ∧ Binds K fd ps []
theorem MethC.mono {P : Program} {w : World} {K : PySem.W.Frag} {mg : Str → Option Value} {base : Heap} {j k : Nat} {C : Addr} {m : Str} {n : Nat} {S S' : Spc} (M : MethC P w K mg base j C m n S) (h : j ≤ k) (hS : ∀ xs st Q, xs.length = n → S' xs st Q → S xs st Q) : MethC P w K mg base k C m n S' := by
  obtain ⟨f, fd, ps, F, a, b⟩ := M.ex
  exact ⟨f, fd, ps, (F.mono h).imp hS, a, b⟩
/-- the value of the field f of an object of class C -/
def fldR (C : Addr) (f : Str) (x : PV) (st : Sto) (Q : PV → Sto → Prop) : Prop := match x with
  | .ins C' ks xs => C' = C ∧ ∃ i v, ks.findIdx? (· == f) = some i ∧ xs[i]? = some v ∧ Q v st
  | _ => False
def wFld (C : Addr) (f : Str) (w : WE) : WE := fun env st Q => w env st fun x st1 => fldR C f x st1 Q
theorem lookup_at {f : Str} : ∀ {kvs : List (Str × V)} {i : Nat} {v : V}, (kvs.map (·.1)).findIdx? (· == f) = some i → (kvs.map (·.2))[i]? = some v → List.lookup f kvs = some v
  | [], i, v, h, _ => by simp at h
  | (k, u) :: r, i, v, h, g => by
    simp only [List.map_cons, List.findIdx?_cons] at h
    rw [List.lookup_cons]
    by_cases hk : k = f
    · subst hk
      simp only [beq_self_eq_true, if_true, Option.some.injEq] at h
      subst h
      simp only [List.map_cons, List.getElem?_cons_zero, Option.some.injEq] at g
      subst g
      simp
    · have hb : (k == f) = false := by simpa using hk
      have hb2 : (f == k) = false := by simpa using fun e : f = k => hk e.symm
      rw [hb] at h
      rw [hb2]
      simp only [Bool.false_eq_true, if_false, Option.map_eq_some_iff] at h
      obtain ⟨j, hj, rfl⟩ := h
      simp only [List.map_cons, List.getElem?_cons_succ] at g
      exact lookup_at hj g
theorem reps_get {K : PySem.W.Frag} {ro fr : List Addr} {H : Hp} : ∀ {xs : List PV} {vs : List V} {i : Nat} {x : PV}, RepVs K ro fr H xs vs → xs[i]? = some x → ∃ v, vs[i]? = some v ∧ RepV K ro fr H x v
  | _, _, i, _, .nil, h => by simp at h
  | _, _, 0, _, .cons a _, h => by
    simp only [List.getElem?_cons_zero, Option.some.injEq] at h
    subst h
    exact ⟨_, rfl, a⟩
  | _, _, i + 1, _, .cons _ b, h => by
    simp only [List.getElem?_cons_succ] at h ⊢
    exact reps_get b h
section
variable {X : Cx} {k n : Nat} {C f : Addr} {fd : FuncData} {ps : List Str} {S : Spc} {m : Str} {pos apos : Pos} {e o : Expr} {es : List Expr} {w : WE} {wa : WA}
theorem d_fld {g : Str} (hc : Cls X.K C) (hn : NoAttr X.K C g) (he : DE X e w) (hb : attributeBase e g X.env (eval e X.env) = eval e X.env := by rfl) : DE X (.Attribute e g pos) (wFld C g w) := by
  refine ⟨?_⟩
  intro ro fr σ H env st Q E St hw
  refine toW (pe_fld (pe_W X e) hb) ?_
  refine tW.mono (he _ _ _ _ _ _ _ E St hw) fun v H1 ⟨ro1, x, st1, e1, S1, r1, h1⟩ => ?_
  cases x with
  | ins C' ks xs =>
    obtain ⟨rfl, i, y, hi, hy, q⟩ := h1
    cases r1 with
    | @ins a _ _ _ kvs h2 h3 h4 =>
      obtain ⟨⟨dx, h5⟩, _⟩ := h2
      obtain ⟨u, hu, ru⟩ := reps_get h4 hy
      subst h3
      exact ⟨a, C', dx, kvs, u, rfl, h5, hc, hn, lookup_at hi hu, ro1, y, st1, e1, S1, ru, q⟩
  | _ => cases h1
def wSelf (C : Addr) (m : Str) (w : WE) : WE := fun env st Q => w env st fun x st1 => ∃ ks ys, x = .ins C ks ys ∧ m ∉ ks ∧ Q x st1
end
end Pv
namespace Pv
open PySem PySem.Spec L2
mutual
/-- no number of the store from m on stands in it -/
def rbV (m : Nat) : PV → Bool
  | .tup xs | .lst xs | .fls xs | .ptp xs => rbVs m xs
  | .dk _ xs => rbVs m xs
  | .ins _ _ xs => rbVs m xs
  | .ref n => decide (n < m)
  | _ => true
def rbVs (m : Nat) : List PV → Bool
  | [] => true
  | x :: xs => rbV m x && rbVs m xs
end
section
variable {K : PySem.W.Frag} {ro fr : List Addr} {H H' : Hp}
mutual
theorem rb_of : ∀ {x : PV} {v : V}, RepV K ro fr H x v → rbV ro.length x = true
  | _, _, .non => rfl
  | _, _, .bl _ => rfl
  | _, _, .int _ => rfl
  | _, _, .str _ => rfl
  | _, _, .tup _ h => by simp only [rbV]; exact rbs_of h
  | _, _, .lst _ h => by simp only [rbV]; exact rbs_of h
  | _, _, .fls _ h => by simp only [rbV]; exact rbs_of h
  | _, _, .dk _ _ h => by simp only [rbV]; exact rbs_of h
  | _, _, .ref h => by simp only [rbV, decide_eq_true_eq]; exact (List.getElem?_eq_some_iff.mp h).1
  | _, _, .ptp _ h => by simp only [rbV]; exact rbs_of h
  | _, _, .fn => rfl
  | _, _, .ins _ _ h => by simp only [rbV]; exact rbs_of h
theorem rbs_of : ∀ {xs : List PV} {vs : List V}, RepVs K ro fr H xs vs → rbVs ro.length xs = true
  | _, _, .nil => rfl
  | _, _, .cons a b => by simp only [rbVs, rb_of a, rbs_of b, Bool.and_self]
end
variable {p : Addr}
theorem fls_back {a : Addr} {vs : List V} (h : FlsAt K (ro ++ [p]) fr H a vs) : FlsAt K ro fr H a vs := h.elim (fun ⟨q1, q2, q3⟩ => .inl ⟨q1, fun m => q2 (List.mem_append_left _ m), q3⟩) .inr
theorem tup_back {a : Addr} {vs : List V} (h : TupAt K (ro ++ [p]) fr H a vs) : TupAt K ro fr H a vs := h.elim (fun ⟨q1, q2, q3⟩ => .inl ⟨q1, fun m => q2 (List.mem_append_left _ m), q3⟩) .inr
mutual
theorem rep_back : ∀ {x : PV} {v : V}, RepV K (ro ++ [p]) fr H x v → rbV ro.length x = true → RepV K ro fr H x v
  | _, _, .non, _ => .non
  | _, _, .bl b, _ => .bl b
  | _, _, .int i, _ => .int i
  | _, _, .str s, _ => .str s
  | _, _, .tup a h, q => .tup (tup_back a) (reps_back h (by simpa only [rbV] using q))
  | _, _, .lst a h, q => .lst ⟨a.1, fun m => a.2.1 (List.mem_append_left _ m), a.2.2⟩ (reps_back h (by simpa only [rbV] using q))
  | _, _, .fls a h, q => .fls (fls_back a) (reps_back h (by simpa only [rbV] using q))
  | _, _, .dk a b h, q => .dk ⟨a.1, fun m => a.2.1 (List.mem_append_left _ m), a.2.2⟩ b (reps_back h (by simpa only [rbV] using q))
  | _, _, .ref h, q => .ref (by
      simp only [rbV, decide_eq_true_eq] at q
      rw [List.getElem?_append_left q] at h
      exact h)
  | _, _, .ptp a h, q => .ptp ⟨a.1, fun m => a.2.1 (List.mem_append_left _ m), a.2.2⟩ (reps_back h (by simpa only [rbV] using q))
  | _, _, .fn, _ => .fn
  | _, _, .ins a b h, q => .ins ⟨a.1, fun m => a.2.1 (List.mem_append_left _ m), a.2.2⟩ b (reps_back h (by simpa only [rbV] using q))
theorem reps_back : ∀ {xs : List PV} {vs : List V}, RepVs K (ro ++ [p]) fr H xs vs → rbVs ro.length xs = true → RepVs K ro fr H xs vs
  | _, _, .nil, _ => .nil
  | _, _, .cons a b, q => by
    simp only [rbVs, Bool.and_eq_true] at q
    exact .cons (rep_back a q.1) (reps_back b q.2)
end
def rbC (m : Nat) : Cell → Bool
  | .lst xs | .dk _ xs | .ins _ _ xs | .fdk _ _ _ xs => rbVs m xs
  | .dt _ _ => true
  | .tb _ _ => true
  | .fdt _ _ _ _ => true
  | .cap _ _ _ _ xs => rbVs m xs
theorem rbC_of {c : Cell} {a : Addr} (h : RepC K ro fr H c a) : rbC ro.length c = true := by
  cases c with
  | lst xs => obtain ⟨vs, _, r⟩ := h; exact rbs_of r
  | dk ks xs => obtain ⟨kvs, _, _, r⟩ := h; exact rbs_of r
  | dt ks vs => rfl
  | ins C ks xs => obtain ⟨dx, kvs, _, _, r⟩ := h; exact rbs_of r
  | fdk o kvs ks xs => obtain ⟨_, _, r⟩ := h; exact rbs_of r
  | fdt o φ bs ks => rfl
  | tb x q => rfl
  | cap o c q vs xs => exact rbs_of h.2
theorem rb_keys : ∀ {m : Nat} (ks : List (List Key)), rbVs m (ks.map kTup) = true
  | _, [] => rfl
  | m, k :: ks => by
    have hk : ∀ k : List Key, rbVs m (k.map kPV) = true := fun k => by
      induction k with
      | nil => rfl
      | cons a as ih =>
        simp only [List.map_cons, rbVs, ih, Bool.and_true]
        cases a <;> rfl
    simp only [List.map_cons, rbVs, rb_keys ks, Bool.and_true]
    unfold kTup
    simp only [rbV]
    exact hk k
theorem repC_back {c : Cell} {a : Addr} (h : RepC K (ro ++ [p]) fr H c a) (q : rbC ro.length c = true) : RepC K ro fr H c a := by
  cases c with
  | lst xs => obtain ⟨vs, h1, r⟩ := h; exact ⟨vs, h1, reps_back r q⟩
  | dk ks xs => obtain ⟨kvs, h1, h2, r⟩ := h; exact ⟨kvs, h1, h2, reps_back r q⟩
  | dt ks vs => obtain ⟨φ, bs, h1, h2, r⟩ := h; exact ⟨φ, bs, h1, h2, reps_back r (rb_keys ks)⟩
  | ins C ks xs => obtain ⟨dx, kvs, h1, h2, r⟩ := h; exact ⟨dx, kvs, h1, h2, reps_back r q⟩
  | fdk o kvs ks xs => obtain ⟨h1, h2, r⟩ := h; exact ⟨h1, h2, reps_back r q⟩
  | fdt o φ bs ks => obtain ⟨h1, r⟩ := h; exact ⟨h1, reps_back r (rb_keys ks)⟩
  | tb x y =>
    obtain ⟨h0, ps, h1, h2, k⟩ := h
    refine ⟨h0, ps, h1, h2, fun pos cv hv => ?_⟩
    obtain ⟨c, e1, e2, e3, e4⟩ := k pos cv hv
    exact ⟨c, e1, e2, fun z => e3 (List.mem_append_left _ z), e4⟩
  | cap o c y vs xs =>
    obtain ⟨⟨h1, e2, e3, e4⟩, k⟩ := h
    exact ⟨⟨h1, e2, fun z => e3 (List.mem_append_left _ z), e4⟩, reps_back k q⟩
theorem RepS.back1 {st : Sto} {c : Cell} (S0 : RepS K ro fr H st) (S : RepS K (ro ++ [p]) fr H' (st ++ [c])) : RepS K ro fr H' st where
  len := S0.len
  nd := S0.nd
  dis := S0.dis
  at_ n d a h1 h2 := by
    have l1 := (List.getElem?_eq_some_iff.mp h1).1
    have l2 := (List.getElem?_eq_some_iff.mp h2).1
    have := S.at_ n d a (by rw [List.getElem?_append_left l1]; exact h1) (by rw [List.getElem?_append_left l2]; exact h2)
    exact repC_back this (rbC_of (S0.at_ n d a h1 h2))
  frT := S.frT
end
end Pv
namespace Pv
open PySem PySem.Spec L2
theorem putF_new {f : Str} {v : V} : ∀ {kvs : List (Str × V)}, f ∉ kvs.map (·.1) → putF f v kvs = kvs ++ [(f, v)]
  | [], _ => rfl
  | (g, x) :: r, h => by
    simp only [List.map_cons, List.mem_cons, not_or] at h
    show (if g = f then (g, v) :: r else (g, x) :: putF f v r) = _
    rw [if_neg fun e => h.1 e.symm, putF_new h.2]
    rfl
/-- o.f = value, where f is new -/
def sFldN (i : Nat) (C : Addr) (f : Str) (w : WE) : WS := fun D env st => w env st fun x st1 => ∃ n ks xs, env[i]? = some (some (.ref n)) ∧ st1[n]? = some (.ins C ks xs) ∧ f ∉ ks ∧ ks.length < 1000 ∧ D.nx env (st1.set n (.ins C (ks ++ [f]) (xs ++ [x])))
section
variable {X : Cx} {C : Addr} {f x y : Str} {i : Nat} {e a : Expr} {w wa : WE} {p p2 pos pos' npos : Pos}
theorem ds_fldN (hc : Cls X.K C) (hn : NoAttr X.K C f) (hN : X.N[i]? = some x) (hv : Vis X.env.scope x) (he : DE X e w) (hdb : (x == ("__debug__" : Str)) = false := by decide +kernel) (hcd : (x == ("__classdict__" : Str)) = false := by decide +kernel)
    (hs : swapsWith e (some (.Attribute (.Name x npos) f pos')) pos.line X.env = pure false := by first | exact swaps_no (by rfl) | rfl) : DS X (.Assign [.Attribute (.Name x npos) f pos'] e pos) (sFldN i C f w) := by
  refine ⟨?_⟩
  intro ro fr σ H env sto D E S T hw
  refine toWS (ps_fld (pe_var hN hv hdb hcd) (pe_W X e) hs) ?_
  refine tW.mono (he _ _ _ _ _ _ _ E S hw) fun v H1 ⟨ro1, z, st1, e1, S1, r1, n, ks, xs, h1, h2, h3, h4, q⟩ => ?_
  obtain ⟨u, hu, ru⟩ := (E.ext e1).2 i _ h1
  cases ru with
  | @ref a _ hr =>
    obtain ⟨dx, kvs, k1, k2, k3⟩ := S1.at_ n _ a h2 hr
    refine ⟨_, hu, a, C, dx, kvs, rfl, k1, hc, hn, by rw [← k2, List.length_map] at h4; exact h4, ?_⟩
    have ex : Ext ro1 H1 ro1 (upd H1 a (.ins C dx (putF f v kvs))) := ext_set (List.mem_of_getElem? hr)
    have ep : putF f v kvs = kvs ++ [(f, v)] := putF_new (by rw [k2]; exact h3)
    have r2 : RepVs X.K ro1 fr H1 (xs ++ [z]) ((putF f v kvs).map (·.2)) := by rw [ep, List.map_append]; exact k3.append (.cons r1 .nil)
    have hcell : RepC X.K ro1 fr (upd H1 a (.ins C dx (putF f v kvs))) (.ins C (ks ++ [f]) (xs ++ [z])) a := ⟨dx, putF f v kvs, upd_same, by rw [ep, List.map_append, k2]; rfl, r2.ext ex⟩
    exact ⟨ro1, env, _, e1.trans ex, S1.set hr hcell, (E.ext e1).ext ex, q⟩
def wSetF (i : Nat) (C : Addr) (f : Str) (w : WE) : WE := fun env st Q => w env st fun x st1 => ∃ n ks xs, env[i]? = some (some (.ref n)) ∧ st1[n]? = some (.ins C ks xs) ∧ f ∉ ks ∧ ks.length < 1000 ∧ Q .non (st1.set n (.ins C (ks ++ [f]) (xs ++ [x])))
theorem ds_setF (hc : Cls X.K C) (hn : NoAttr X.K C f) (hN : X.N[i]? = some x) (hv : Vis X.env.scope x) (he : DE X e w) (hdb : (x == ("__debug__" : Str)) = false := by decide +kernel) (hcd : (x == ("__classdict__" : Str)) = false := by decide +kernel)
    (hs : swapsWith e (some (.Attribute (.Name x npos) f pos')) pos.line X.env = pure false := by first | exact swaps_no (by rfl) | rfl) : DS X (.Assign [.Attribute (.Name x npos) f pos'] e pos) (sDrop (wSetF i C f w)) :=
  ⟨fun ro fr σ H env sto D E S T hw => (ds_fldN hc hn hN hv he hdb hcd hs).run ro fr σ H env sto D E S T hw⟩
end
end Pv
namespace Pv
open PySem PySem.Spec L2
theorem fn_okD {P : Program} {w : World} {K : PySem.W.Frag} {mg : Str → Option Value} {base : Heap} {x qual : Str} {params : Arguments} {body : List Stmt} {scope : Scope} {dvs : List V} {kws : List (Str × V)} {N ps : List Str} {k n : Nat} {S : Spc} {f : Addr} {fd : FuncData} (F : FunD K x qual params body scope dvs kws f fd) (sc : FnScope N ps scope) (hn : n = ps.length) {wb : WS}
    (hd : ∀ (cdv : Value) (A : Around) (outer : List Env) (s : Shared) (H : Hp), XG k (cxOf CX0 P w K mg base N qual scope f cdv A outer s H E0).nox → DSs (cxOf CX0 P w K mg base N qual scope f cdv A outer s H E0).nox body wb)
    (hS : ∀ xs sto Q, xs.length = n → S xs sto Q → wb { nx := fun _ st' => Q .non st', rt := Q } (startP N xs) sto) : FnG P w K mg base (k + 1) f fd ps (spOf K n S) := by
  obtain ⟨oc, od, dV, kV, doc, pm, an, cdv, ct, osl, rfl, lk, hcd, _, _⟩ := F.ex
  refine fn_g lk hcd sc (fun vs H Q E h => ?_) (fun A outer s H vs Q hr hgd h => ?_)
  · obtain ⟨ro, fr, xs, sto, Qp, r, _, hl, _⟩ := h
    rw [← r.length, hl, hn]
  · obtain ⟨ro, fr, xs, sto, Qp, r, RS, hl, hs, post⟩ := h
    refine ⟨_, (pss_W (cxOf CX0 P w K mg base N qual scope f cdv A outer s H E0).nox _).nox, ?_⟩
    refine tWSs.mono (hd cdv A outer s H ⟨hr, hgd.1, rfl, hgd.2⟩ _ _ _ _ _ _ _ (RepEnv.start r) RS TK.no (hS xs sto Qp hl hs)) ?_ (fun v H' h => post v H' h) (fun _ _ ⟨_, _, _, _, _, _, h⟩ => h.elim) (fun _ _ ⟨_, _, _, _, _, _, h⟩ => h.elim)
    rintro σ' H' ⟨ro', env', st', e', S', E', q⟩
    exact post .non H' ⟨ro', .non, st', e', S', .non, q⟩
/-- values that stand in no heap -/
inductive PlainV : List PV → List V → Prop
  | nil : PlainV [] []
  | non {xs vs} : PlainV xs vs → PlainV (.non :: xs) (.non :: vs)
  | bl {b xs vs} : PlainV xs vs → PlainV (.bl b :: xs) (.bl b :: vs)
  | int {i xs vs} : PlainV xs vs → PlainV (.int i :: xs) (.int i :: vs)
theorem PlainV.rep {K : PySem.W.Frag} {ro fr : List Addr} {H : Hp} {xs : List PV} {vs : List V} (h : PlainV xs vs) : RepVs K ro fr H xs vs := by
  induction h with
  | nil => exact .nil
  | non _ ih => exact .cons .non ih
  | bl _ ih => exact .cons (.bl _) ih
  | int _ ih => exact .cons (.int _) ih
theorem RepVs.app {K : PySem.W.Frag} {ro fr : List Addr} {H : Hp} {xs ys : List PV} {vs us : List V} (h : RepVs K ro fr H xs vs) (g : RepVs K ro fr H ys us) : RepVs K ro fr H (xs ++ ys) (vs ++ us) := h.append g
structure ClassD (P : Program) (w : World) (K : PySem.W.Frag) (mg : Str → Option Value) (base : Heap) (k : Nat) (x : Str) (C : Addr) (n : Nat) (dps : List PV) (S : Spc) : Prop where
  ex : ∃ f fd ps ds dvs, FnG P w K mg base k f fd ps (spOf K n S) ∧ Mk K C f ∧ mg x = some (.ref C) ∧ Binds K fd ps ds ∧ Vals dvs ds ∧ PlainV dps dvs
/-- what an __init__ has left at its object, in the last cell, stands from now on as it is -/
theorem made_post {K : PySem.W.Frag} {ro fr : List Addr} {H0 H1 : Hp} {st1 : Sto} {a dx C : Addr} {Q : PV → Sto → Prop} {v : V} {H2 : Hp} (S1 : RepS K ro fr H1 st1) (hfa : H1 a = none) (x1 : Ext ro H1 (ro ++ [a]) (upd (upd H1 dx (.own a)) a (.ins C dx [])))
    (h : Post K (ro ++ [a]) fr (upd (upd H1 dx (.own a)) a (.ins C dx [])) (fun v st2 => v = .non ∧ ∃ ks ys, st2 = st1 ++ [.ins C ks ys] ∧ rbVs st1.length ys = true ∧ Q (.ins C ks ys) st1) v H2) : v = .non ∧ Post K ro fr H1 Q (.ref a) H2 := by
  obtain ⟨ro3, y, st3, e3, S3, r3, rfl, ks, ys, rfl, hys, q⟩ := h
  cases r3
  have hro : ro3 = ro ++ [a] := by
    obtain ⟨t, ht⟩ := e3.pre
    have l1 := S3.len
    have l2 := S1.len
    rw [ht] at l1
    simp only [List.length_append, List.length_cons, List.length_nil] at l1
    have : t = [] := List.eq_nil_of_length_eq_zero (by omega)
    rw [ht, this, List.append_nil]
  subst hro
  have S4 := S1.back1 S3
  have hlast : (ro ++ [a])[st1.length]? = some a := by rw [← S1.len]; simp
  obtain ⟨dx2, kvs, k1, k2, k3⟩ := S3.at_ st1.length (.ins C ks ys) a (by simp) hlast
  rw [← S1.len] at hys
  have na : a ∉ ro := fun m => by
    have := S3.nd
    rw [List.nodup_append] at this
    exact this.2.2 a m a (by simp) rfl
  refine ⟨rfl, ro, .ins C ks ys, st1, ⟨⟨[], by simp⟩, fun b o hb hn => ?_, fun _ m => .inl m⟩, S4, .ins ⟨⟨dx2, k1⟩, na, S3.dis a (by simp)⟩ k2 (reps_back k3 hys), q⟩
  have hbne : b ≠ a := fun z => by rw [z, hfa] at hb; cases hb
  exact e3.old b o (x1.old b o hb hn) (by simp [hn, hbne])
section
variable {X : Cx} {k n : Nat} {C f : Addr} {fd : FuncData} {ps : List Str} {S : Spc} {x : Str} {p pos : Pos} {e : Expr} {es : List Expr} {wa : WA} {ds : List Value} {dvs : List V} {dps : List PV}
theorem run_makeD {sp : Sp} {pins : List (Addr × Obj)} {σ : L2.St} {H : Hp} {s : Shared} {Q : VK} {us : List Value} {vs : List V} (M : Mk X.K C f) (F : FnG X.prog X.w X.K X.mg X.base k f fd ps sp) (hr : XG (k + 1) X) (hb : Binds X.K fd ps ds) (hd : Vals dvs ds)
    (I : Inv X pins σ H s) (r : Vals vs us)
    (h : ∀ x dx, H x = none → H dx = none → dx ≠ x → sp (.ref x :: (vs ++ dvs)) (upd (upd H dx (.own x)) x (.ins C dx [])) (fun v H2 => v = .non ∧ Q (.ref x) H2) E0) :
    wpAny (model X.prog X.w) X.A (call (.ref C) us) (EP X pins σ Q) X.xe s := by
  have hq := h (s.heap.objs.size + 1) s.heap.objs.size (I.hok.fresh (Nat.le_succ _)) (I.hok.fresh (Nat.le_refl _)) (Nat.ne_of_lt (Nat.lt_succ_self _))
  have I2 := Inv.made (C := C) I
  have r2 : Vals (V.ref (s.heap.objs.size + 1) :: (vs ++ dvs)) (Value.ref (s.heap.objs.size + 1) :: (us ++ ds)) := .cons rfl (r.append hd)
  have hl : (Value.ref (s.heap.objs.size + 1) :: us ++ ds).length = ps.length := by
    have e := r2.length
    rw [F.len _ _ _ _ hq] at e
    exact e.symm
  refine wpAny_call (make_map (f := f) I.kIn M.makes M.init (beq_iff_eq.mp M.fn) (codeAny_mono (F.run _ X.stack _ _ ⟨Value.ref (s.heap.objs.size + 1) :: us, []⟩ (Value.ref (s.heap.objs.size + 1) :: (us ++ ds)) _ _ (hr.room.make C us []) (by exact hr.gd)
    (I2.env0.make C us []) (hb _ (Value.ref (s.heap.objs.size + 1) :: us) I2.kIn hl) r2 hq) fun r s' hq' => ?_))
  cases r with
  | error e => exact False.elim hq'
  | ok fl =>
    cases fl with
    | ret u =>
      obtain ⟨v, H', I3, rv, ev, q3⟩ := I2.after hq'
      subst ev
      exact ⟨rv, ⟨V.ref (s.heap.objs.size + 1), H', I3, rfl, q3⟩⟩
    | next => exact False.elim hq'
    | brk => exact False.elim hq'
    | cont => exact False.elim hq'
theorem pe_makeD {sp : Sp} {t : L2.TA} (M : Mk X.K C f) (F : FnG X.prog X.w X.K X.mg X.base k f fd ps sp) (hr : XG (k + 1) X) (hg : Gl X x) (hm : X.mg x = some (.ref C)) (hb : Binds X.K fd ps ds) (hd : Vals dvs ds)
    (ha : PA X (e :: es) t) (hdb : (x == ("__debug__" : Str)) = false := by decide +kernel) (he : starEach (e :: es) X.env = (false, eval e X.env) :: starEach es X.env := by exact star_cons (by rfl)) (hpl : (backTo pos (starEach es X.env)).any (·.1) = false := by exact star_plain (by rfl)) :
    PE X (.Call (.Name x p) (e :: es) [] pos) (tMake C sp dvs E0 t) := by
  refine ⟨fun pins s σ H Q I h => ?_⟩
  refine wpAny_Call_Name_kw (ld_glob I hg hm ?_ hdb)
  refine PySem.W.callWith_K (h₀ := X.base) I.ok.mod.kin M.kp (thn (ha.run pos pins s σ H _ I h) fun us s1 ⟨vs, H1, I1, r, q⟩ => ⟨I1.kIn, ?_⟩) he hpl
  exact run_makeD M F hr hb hd I1 r q
theorem make_tail {ro fr : List Addr} {H H1 : Hp} {ro1 : List Addr} {st1 : Sto} {xs : List PV} {vs : List V} {Q : PV → Sto → Prop} (e1 : Ext ro H ro1 H1) (S1 : RepS X.K ro1 fr H1 st1) (r1 : RepVs X.K ro1 fr H1 xs vs) (h1 : (PV.ref st1.length :: xs).length = n)
    (h2 : S (.ref st1.length :: xs) (st1 ++ [.ins C [] []]) fun v st2 => v = .non ∧ ∃ ks ys, st2 = st1 ++ [.ins C ks ys] ∧ rbVs st1.length ys = true ∧ Q (.ins C ks ys) st1) :
    ∀ x dx, H1 x = none → H1 dx = none → dx ≠ x → spOf X.K n S (.ref x :: vs) (upd (upd H1 dx (.own x)) x (.ins C dx [])) (fun v H2 => v = .non ∧ Post X.K ro fr H Q (.ref x) H2) E0 := by
  intro a dx hfa hfd hne
  have hfa2 : upd H1 dx (.own a) a = none := by rw [upd_ne (fun e => hne e.symm)]; exact hfa
  have S2 : RepS X.K (ro1 ++ [a]) fr (upd (upd H1 dx (.own a)) a (.ins C dx [])) (st1 ++ [.ins C [] []]) := (S1.new hfd).cell hfa2 (c := .ins C [] []) ⟨dx, [], upd_same, rfl, .nil⟩
  have x1 : Ext ro1 H1 (ro1 ++ [a]) (upd (upd H1 dx (.own a)) a (.ins C dx [])) := (ext_new hfd).trans (ext_cell hfa2)
  refine ⟨ro1 ++ [a], fr, _, _, _, .cons (.ref (by rw [← S1.len]; simp)) (r1.ext x1), S2, h1, h2, ?_⟩
  intro v H2 hp
  obtain ⟨h3, h4⟩ := made_post (H0 := H1) S1 hfa x1 hp
  exact ⟨h3, h4.ext e1⟩
structure ClassK (P : Program) (w : World) (K : PySem.W.Frag) (mg : Str → Option Value) (base : Heap) (k : Nat) (x : Str) (C : Addr) (m : Nat) (ks : List Str) (n : Nat) (S : Spc) : Prop where
  ex : ∃ f fd ps, FnG P w K mg base k f fd ps (spOf K n S) ∧ Mk K C f ∧ mg x = some (.ref C) ∧ KBn K fd ps (m + 1) ks (fun us ws => us ++ ws) (fun vs zs => vs ++ zs)
end
end Pv
namespace Pv
open PySem PySem.Spec L2
/-- slot i holds the new object, while w (a call of __init__) works on it; then it stands as it is -/
def wBirth (i : Nat) (C : Addr) (w : WE) : WE := fun env st Q => w (env.set i (some (.ref st.length))) (st ++ [.ins C [] []]) fun v st2 => v = .non ∧ ∃ ks ys, st2 = st ++ [.ins C ks ys] ∧ rbVs st.length ys = true ∧ Q (.ins C ks ys) st
def newR (C : Addr) (m : Nat) (dps : List PV) (S : Spc) : Spc := fun xs st Q => (PV.ref st.length :: (xs ++ dps)).length = m ∧ S (.ref st.length :: (xs ++ dps)) (st ++ [.ins C [] []]) fun v st2 => v = .non ∧ ∃ ks ys, st2 = st ++ [.ins C ks ys] ∧ rbVs st.length ys = true ∧ Q (.ins C ks ys) st
/-- C(e, ..), by its values alone, at a level -/
structure NewC (P : Program) (w : World) (K : PySem.W.Frag) (mg : Str → Option Value) (base : Heap) (k : Nat) (x : Str) (n : Nat) (S : Spc) : Prop where
  ex : ∃ C f, Mk K C f ∧ mg x = some (.ref C) ∧ ((k = 0 ∧ ∀ xs st Q, ¬ S xs st Q) ∨ ∃ j m dps S', k = j + 1 ∧ ClassD P w K mg base j x C m dps S' ∧ ∀ xs st Q, xs.length = n → S xs st Q → newR C m dps S' xs st Q)
/-- C(e, .., k = v): the same with keywords ks for the last values -/
structure NewK (P : Program) (w : World) (K : PySem.W.Frag) (mg : Str → Option Value) (base : Heap) (k : Nat) (x : Str) (n0 : Nat) (ks : List Str) (n : Nat) (S : Spc) : Prop where
  ex : ∃ C f, Mk K C f ∧ mg x = some (.ref C) ∧ ((k = 0 ∧ ∀ xs st Q, ¬ S xs st Q) ∨ ∃ j m S', k = j + 1 ∧ ClassK P w K mg base j x C n0 ks m S' ∧ ∀ xs st Q, xs.length = n → S xs st Q → newR C m [] S' xs st Q)
section
variable {X : Cx} {k n : Nat} {C f : Addr} {S : Spc} {x : Str} {p pos : Pos} {e : Expr} {es : List Expr} {wa : WA}
def tMakeF (t : L2.TA) : L2.TE := fun σ H Q => t σ H fun _ _ => False
theorem pe_makeF {t : L2.TA} (M : Mk X.K C f) (hg : Gl X x) (hm : X.mg x = some (.ref C))
    (ha : PA X (e :: es) t) (hdb : (x == ("__debug__" : Str)) = false := by decide +kernel) (he : starEach (e :: es) X.env = (false, eval e X.env) :: starEach es X.env := by exact star_cons (by rfl)) (hpl : (backTo pos (starEach es X.env)).any (·.1) = false := by exact star_plain (by rfl)) :
    PE X (.Call (.Name x p) (e :: es) [] pos) (tMakeF t) := by
  refine ⟨fun pins s σ H Q I h => ?_⟩
  refine wpAny_Call_Name_kw (ld_glob I hg hm ?_ hdb)
  exact PySem.W.callWith_K (h₀ := X.base) I.ok.mod.kin M.kp (thn (ha.run pos pins s σ H _ I h) fun us s1 ⟨vs, H1, I1, r, q⟩ => q.elim) he hpl
theorem d_new (N : NewC X.prog X.w X.K X.mg X.base k x n S) (hr : XG k X) (ha : DA X (e :: es) wa) (hg : Gl X x := by rfl) (hdb : (x == ("__debug__" : Str)) = false := by decide +kernel) (he : starEach (e :: es) X.env = (false, eval e X.env) :: starEach es X.env := by exact star_cons (by rfl)) (hpl : (backTo pos (starEach es X.env)).any (·.1) = false := by exact star_plain (by rfl)) :
    DE X (.Call (.Name x p) (e :: es) [] pos) (wCall n S wa) := by
  obtain ⟨C, f, M, hm, h | ⟨j, m, dps, S', rfl, D, hS⟩⟩ := N.ex
  · refine ⟨?_⟩
    intro ro fr σ H env st Q E St hw
    refine toW (pe_makeF M hg hm (pa_W X _) hdb he hpl) ?_
    exact tWA.mono (ha _ _ _ _ _ _ _ E St hw) fun vs H1 ⟨ro1, xs, st1, e1, S1, r1, h1, h2⟩ => h.2 _ _ _ h2
  · obtain ⟨f, fd, ps, ds, dvs, F, M, hm, hb, hd, hpv⟩ := D.ex
    refine ⟨?_⟩
    intro ro fr σ H env st Q E St hw
    refine toW (pe_makeD M F hr hg hm hb hd (pa_W X _) hdb he hpl) ?_
    refine tWA.mono (ha _ _ _ _ _ _ _ E St hw) fun vs H1 ⟨ro1, xs, st1, e1, S1, r1, h1, h2⟩ => ?_
    obtain ⟨h3, h4⟩ := hS _ _ _ h1 h2
    exact make_tail e1 S1 (r1.append hpv.rep) h3 h4
end
def wNew2 (C : Addr) (S : Spc) : WS := sRet (wBirth 2 C (wCall 3 S (wCons (wVar 2) (wCons (wVar 0) (wCons (wVar 1) wNil)))))
theorem new2_R {C : Addr} {S : Spc} {a b c : Str} {xs : List PV} {st : Sto} {Q : PV → Sto → Prop} {D : EndsP} (hl : xs.length = 2) (hD : D.rt = Q) (h : wNew2 C S D (startP [a, b, c] xs) st) : newR C 3 [] S xs st Q := by
  match xs, hl with
  | [x, y], _ =>
    obtain ⟨_, h1, _, h2, _, h3, _, h4⟩ := h
    cases h1; cases h2; cases h3
    rw [hD] at h4
    exact ⟨rfl, h4⟩
/-- the class x at C: its __init__ (self, base, parts=None and the like) keeps S -/
structure InitC (P : Program) (w : World) (K : PySem.W.Frag) (mg : Str → Option Value) (base : Heap) (k : Nat) (x : Str) (C : Addr) (kw : Str) (S : Spc) : Prop where
  ex : ∃ f fd ps, FnG P w K mg base k f fd ps (spOf K 3 S) ∧ Mk K C f ∧ mg x = some (.ref C) ∧ Binds K fd ps [] ∧ (∃ ds, Vals [V.non] ds ∧ Binds K fd ps ds) ∧ KBn K fd ps 2 [kw] (fun us ws => us ++ ws) (fun vs zs => vs ++ zs)
section
variable {P : Program} {w : World} {K : PySem.W.Frag} {mg : Str → Option Value} {base : Heap} {j : Nat} {x kw : Str} {C : Addr} {S S' : Spc}
theorem InitC.new2 (I : InitC P w K mg base j x C kw S') (h : ∀ xs st Q, xs.length = 2 → S xs st Q → newR C 3 [] S' xs st Q) : NewC P w K mg base (j + 1) x 2 S := by
  obtain ⟨f, fd, ps, F, M, hm, b2, _, _⟩ := I.ex
  exact ⟨C, f, M, hm, .inr ⟨j, 3, [], S', rfl, ⟨f, fd, ps, [], [], F, M, hm, b2, .nil, .nil⟩, h⟩⟩
theorem InitC.newk (I : InitC P w K mg base j x C kw S') (h : ∀ xs st Q, xs.length = 2 → S xs st Q → newR C 3 [] S' xs st Q) : NewK P w K mg base (j + 1) x 1 [kw] 2 S := by
  obtain ⟨f, fd, ps, F, M, hm, _, _, bk⟩ := I.ex
  exact ⟨C, f, M, hm, .inr ⟨j, 3, S', rfl, ⟨f, fd, ps, F, M, hm, bk⟩, h⟩⟩
end
theorem kit_self {K : PySem.W.Frag} {C : Addr} : PySem.W.kitOne K (.ref C) (.ref C) = some true := by
  unfold PySem.W.kitOne
  rw [if_pos (by first | rfl | simp)]
end Pv
namespace Pv
open PySem PySem.Spec L2 PyProof.Rows
section
variable {X : Cx}
def strR : CaP := fun xs st Q => ∃ i, xs = [.int i] ∧ i.natAbs.log2 < 1920 ∧ Q (.str (Str.ofString (toString i))) st
theorem dca_str : DCa X (.type "str") strR := by
  refine ⟨?_⟩
  rintro ro fr H st xs vs Q S r ⟨i, rfl, hz, q⟩
  obtain ⟨v, rfl, r1⟩ := one_rep r
  cases r1
  exact toC call_str_int ⟨i, rfl, hz, ro, _, st, .refl, S, .str _, q⟩
end
end Pv
namespace Pv
open PySem PySem.Spec L2
def key0 : Key → Bool
  | .inl i => decide (i = 0)
  | .inr s => decide (s = Str.ofString "a")
mutual
def okV (N : Nat) : PV → Bool
  | .non | .bl _ => true
  | .int i => decide (i.natAbs ≤ N)
  | .str s => s.cps.toList.all fun c => decide (c < 128)
  | .tup xs | .lst xs => okVs N xs
  | .dk ks xs => ks.all key0 && okVs N xs
  | .fls _ | .ref _ | .ptp _ | .fn _ | .ins _ _ _ => false
def okVs (N : Nat) : List PV → Bool
  | [] => true
  | x :: xs => okV N x && okVs N xs
end
section
variable {N : Nat}
theorem okVs_all : ∀ xs : List PV, okVs N xs = xs.all (okV N)
  | [] => rfl
  | x :: xs => by simp only [okVs, List.all_cons, okVs_all xs]
theorem okV_el {xs : List PV} (h : okV N (.tup xs) = true) : ∀ x ∈ xs, okV N x = true := by
  simp only [okV, okVs_all, List.all_eq_true] at h
  exact h
def natV : PV → Bool
  | .int i => decide (0 ≤ i)
  | _ => false
def whV : PV → Bool
  | .int _ => true
  | _ => false
def rowV : PV → Bool
  | .tup xs => decide (1 ≤ xs.length ∧ xs.length ≤ 3) && xs.all natV
  | _ => false
def lenV : PV → Nat
  | .tup xs => xs.length
  | _ => 0
def sqV : PV → Bool
  | .tup xs => decide (1 ≤ xs.length ∧ xs.length ≤ 3) && xs.all fun r => rowV r && decide (lenV r = xs.length)
  | _ => false
mutual
def dV : PV → Nat
  | .tup xs | .lst xs => 1 + dVs xs
  | .dk _ xs => 1 + dVs xs
  | _ => 0
def dVs : List PV → Nat
  | [] => 0
  | x :: xs => max (dV x) (dVs xs)
end
/-- a comprehension that leaves the store -/
theorem lc_fix {α : Type} {gd : Sto → Prop} {g : WG} {te : WE} {env : Envp} {st : Sto} (gg F : α → PV) : ∀ (as : List α) (acc : List PV) (kk : List PV → Sto → Prop), gd st →
    (∀ a ∈ as, ∀ Q : PV → Sto → Prop, Q (F a) st → g (gg a) env st fun env2 st2 => te env2 st2 Q) → acc.length + as.length ≤ sizeLine → kk (acc ++ as.map F) st → lcGo gd g tYesP te env (as.map gg) acc st kk
  | [], acc, kk, hg, _, _, k => ⟨hg, by simpa using k⟩
  | a :: as, acc, kk, hg, h, hl, k => by
    refine ⟨hg, ?_⟩
    simp only [List.length_cons] at hl
    simp only [tYesP, if_true]
    refine h a List.mem_cons_self _ ⟨by omega, ?_⟩
    refine lc_fix gg F as _ kk hg (fun z m => h z (List.mem_cons_of_mem _ m)) (by simp; omega) ?_
    simpa using k
end
end Pv
namespace Pv
open PySem PySem.Spec L2
end Pv
namespace Pv
open PySem PySem.Spec L2 PyProof.Rows
end Pv
namespace Pv
open PySem PySem.Spec L2 PyProof.Rows
end Pv
namespace Pv
open PySem PySem.Spec L2
end Pv
namespace Pv
open PySem PySem.Spec L2
end Pv
namespace PvK
open PySem PySem.Spec PySem.Calls PyProof.Rows PySem.W
section
variable {prog : Program} {w : World} {A : Around} {E : Value → Shared → Prop} {s : Shared} {K : Frag} {x y C f : Addr} {ox : Obj} {od : Option Obj}
theorem repr_KO {Q : Value → Shared → Prop} (hu : A.in1.units < cLine) (X : K.In s.heap) (I : InstAt s.heap x ox C od) (hs : findIn K (.ref C) "__repr__" = some (some (.ref f))) (hf : isFn K (.ref f) = true)
    (hcall : wpAny (model prog w) A.in1 (call (.ref f) [.ref x]) (fun r s' => ∃ m tk, r = .str m tk ∧ Q (.str m tk) s') E s) : wpAny (model prog w) A (call (.builtin "repr") [.ref x]) Q E s := by
  refine Calls.call_function_entry F.kind_repr F.plain_repr F.entry_repr (F.args_repr1 _) ?_
  unfold Builtin.«repr»
  refine wpAny_bind (m := oneArg "repr" _) (wpAny_pure ?_)
  refine wpAny_bind (wpAny_cRoomFor hu ?_)
  refine wpAny_bind (m := specialOf (.ref x) _) (wpAny_bind (I.type.here ((looks_findIn X hs).here ?_)))
  show wpAny _ _ (if (some (Value.ref f)).isNone = true then _ else _) _ _ _
  rw [if_neg (by simp)]
  refine wpAny_bind (m := callSpecialIfBound? (.ref x) (Str.ofString "__repr__") _) (ifBound_K X I hs hf (wpAny_mono hcall (fun r s' hr => ?_) fun _ _ y => y))
  obtain ⟨m, tk, rfl, hq⟩ := hr
  refine wpAny_bind (wpAny_isInstance (typeIs_str _ _ _) isSubtype_str_str ?_)
  first
    | exact wpAny_pure ⟨_, rfl, hq⟩
    | (rw [if_pos rfl]; exact wpAny_pure ⟨_, rfl, hq⟩)
    | (simp only [if_true]; exact wpAny_pure ⟨_, rfl, hq⟩)
theorem len_KO {Q : Value → Shared → Prop} (X : K.In s.heap) (I : InstAt s.heap x ox C od) (hs : findIn K (.ref C) "__len__" = some (some (.ref f))) (hf : isFn K (.ref f) = true)
    (hcall : wpAny (model prog w) A.in1 (call (.ref f) [.ref x]) (fun r s' => ∃ n u, r = .int n u ∧ 0 ≤ n ∧ n < 2 ^ 63 ∧ Q (.int n s'.toks) { s' with toks := s'.toks + 1 }) E s) :
    wpAny (model prog w) A (call (.builtin "len") [.ref x]) Q E s := by
  refine Calls.call_function_entry kind_len plain_len entry_len (args_len1 _) ?_
  unfold Builtin.«len»
  refine wpAny_bind (m := oneArg "len" _) (wpAny_pure ?_)
  refine wpAny_bind (m := callSpecial? (.ref x) (Str.ofString "__len__")) (special_fn X I hs (beq_iff_eq.mp hf) (wpAny_mono hcall (fun r s' hr => ?_) fun _ _ y => y))
  obtain ⟨n, u, rfl, h0, h1, hq⟩ := hr
  refine wpAny_bind (wpAny_holding (wpAny_pure ?_))
  refine wpAny_bind (wpAny_letGo ?_)
  show wpAny _ _ (if n < 0 then _ else _) _ _ _
  rw [if_neg (by omega)]
  show wpAny _ _ (if n ≥ 2 ^ 63 then _ else _) _ _ _
  rw [if_neg (by omega)]
  exact wpAny_bind (wpAny_mkInt (wpAny_pure ⟨_, rfl, hq⟩))
end
end PvK
namespace Pv
open PySem PySem.Spec L2
section
variable {X : Cx} {k n : Nat} {C f : Addr} {fd : FuncData} {ps : List Str} {S : Spc} {m x : Str} {p pos : Pos} {a b e : Expr} {wa wb w : WE}
theorem XG.in1 {k : Nat} {X : Cx} (h : XG k X) : Room k X.A.in1 := ⟨h.room.hd, h.room.dp, by have := h.sl; show X.A.units + 1 + 16 * k + 200 < cLine; omega⟩
theorem run_gA {A : Around} {pins : List (Addr × Obj)} {σ : L2.St} {H : Hp} {s : Shared} {Q : VK} {us : List Value} {vs : List V} {sp : Sp} (F : FnG X.prog X.w X.K X.mg X.base k f fd ps sp) (hr : Room k A) (hg : A.guards = some []) (hf : A.frames = X.A.frames) (hb : Binds X.K fd ps [])
    (I : Inv X pins σ H s) (r : Vals vs us) (h : sp vs H Q E0) : wpAny (model X.prog X.w) A (call (.ref f) us) (EP X pins σ Q) X.xe s := by
  have hl : us.length = ps.length := by rw [← r.length]; exact F.len _ _ _ _ h
  have e0 : Env0 X.prog X.w X.K X.mg X.base A X.stack s H := by
    have e := I.env0
    exact ⟨by rw [hf]; exact e.frames, e.mod, e.bs, e.bsz, e.funs, e.frf, e.hok, e.bare⟩
  refine wpAny_call (codeAny_mono (F.run A X.stack s H ⟨us, []⟩ us vs Q hr hg e0 (by
    have := hb s us I.kIn (by simpa using hl)
    simpa using this) r h) fun r s' hq => ?_)
  cases r with
  | error e => exact False.elim hq
  | ok fl =>
    cases fl with
    | ret u => exact I.after hq
    | next => exact False.elim hq
    | brk => exact False.elim hq
    | cont => exact False.elim hq
end
end Pv
namespace Pv
open PySem PySem.Spec L2 PyProof.Rows PySem.W
def wAsS (w : WE) : WE := fun env st Q => w env st fun v st1 => ∃ y : Str, v = .str y ∧ Q (.str y) st1
def reprIR (C : Addr) (n : Nat) (S : Spc) : CaP := fun xs st Q => match xs with
  | [x] => ∃ ks ys, x = .ins C ks ys ∧ ("__repr__" : Str) ∉ ks ∧ [x].length = n ∧ S [x] st fun v st1 => ∃ y : Str, v = .str y ∧ Q (.str y) st1
  | _ => False
section
variable {X : Cx} {k n : Nat} {C : Addr} {S : Spc} {e : Expr} {w : WE} {p pos : Pos}
theorem dca_reprI (M : MethC X.prog X.w X.K X.mg X.base k C "__repr__" n S) (hr : XG k X) : DCa X (.builtin "repr") (reprIR C n S) := by
  obtain ⟨f, fd, ps, F, hM, hB⟩ := M.ex
  refine ⟨?_⟩
  intro ro fr H st xs vs Q Sx r h
  match xs, h with
  | [x], h =>
    obtain ⟨ks, ys, rfl, _, hn, hs⟩ := h
    obtain ⟨v, rfl, r1⟩ := one_rep r
    intro pins s σ us I rv
    obtain ⟨u, rfl, ru⟩ := vals1 rv
    have r1' := r1
    cases r1 with
    | @ins A1 _ _ _ kv1 i1 _ _ =>
      obtain ⟨⟨dx, g1⟩, _⟩ := i1
      cases ru
      obtain ⟨mA, J, _⟩ := ins_get I.hok g1
      obtain ⟨od, J, _⟩ := J.look
      refine PvK.repr_KO (f := f) (by have := hr.in1.un; omega) I.kIn J hM.at_ hM.fn ?_
      refine wpAny_mono (run_gA F hr.in1 (show X.A.guards = some [] from hr.gd) rfl hB I (show Vals [V.ref A1] [Value.ref A1] from .cons rfl .nil) ⟨ro, fr, _, st, _, .cons r1' .nil, Sx, hn, hs, fun v H' q => q⟩) (fun v s' hq => ?_) fun _ _ z => z
      obtain ⟨z, H', I', rz, ro', x, st', a, b, c, y, rfl, q⟩ := hq
      cases c
      obtain ⟨tk, rfl⟩ := rz
      exact ⟨y, tk, rfl, .str y, H', I', ⟨tk, rfl⟩, ro', _, st', a, b, .str y, q⟩
theorem d_reprI (M : MethC X.prog X.w X.K X.mg X.base k C "__repr__" n S) (hr : XG k X) (hg : Gl X "repr") (hm : X.mg "repr" = none) (hv : bootBuiltins "repr" = some (.builtin "repr")) (he : DE X e w)
    (hst : starEach [e] X.env = (false, eval e X.env) :: starEach [] X.env := by exact star_cons (by rfl)) (hpl : (backTo pos (starEach [] X.env)).any (·.1) = false := by exact star_plain (by rfl)) :
    DE X (.Call (.Name "repr" p) [e] [] pos) (wAsS (wCall n S (wCons (wSelf C "__repr__" w) wNil))) := by
  refine ⟨fun ro fr σ H env st Q E St hw => (d_callB (r := reprIR C n S) (dca_reprI M hr) hg hm hv (da_cons he da_nil hst) (by decide +kernel) (by decide +kernel) hst hpl).run ro fr σ H env st Q E St ?_⟩
  refine cast ?_ hw
  rfl
end
/-- {e!r}, of data -/
def wFmtR (w : WE) : WE := fun env st Q => w env st fun x st1 => isG x = true ∧ (datG x).showable = true ∧ (datG x).depth ≤ 64 ∧ (datG x).shown.length ≤ sizeLine ∧ Q (.str (datG x).shown) st1
section
variable {X : Cx} {k : Nat} {e : Expr} {w : WE} {pos : Pos}
theorem pe_fmtG {te : L2.TE} (hu : X.A.units + 66 < cLine) (hg : X.A.guards = some []) (he : PE X e te) : PE X (.FormattedValue e 114 none pos) (fun σ H Q => te σ H fun v H1 => ∃ x ro fr, RepV X.K ro fr H1 x v ∧ isG x = true ∧ (datG x).showable = true ∧ (datG x).depth ≤ 64 ∧ (datG x).shown.length ≤ sizeLine ∧ Q (.str (datG x).shown) H1) := by
  refine ⟨fun pins s σ H Q I h => ?_⟩
  refine wpAny_FormattedValue_repr (thn (he.run pins s σ H _ I h) fun u s1 hv => ?_)
  obtain ⟨v, H1, I1, ru, x, ro, fr, hx, hi, sh, dp, hl, q⟩ := hv
  have rd := rd_G I1 x v u hx hi ru
  have fin : ∀ h' t tk, (∀ b o, s1.heap.get? b = some o → h'.get? b = some o) → wpAny (model X.prog X.w) X.A (formatField (.str (datG x).shown t) Str.empty) (EP X pins σ Q) X.xe { s1 with heap := h', toks := tk } := fun h' t tk hk => by
    have I2 : L2.Inv X pins σ H1 { s1 with heap := h', toks := tk } := I1.kept hk
    exact wpAny_formatField_str ⟨.str (datG x).shown, H1, I2, ⟨t, rfl⟩, q⟩ ⟨.str (datG x).shown, H1, I2.tok _, ⟨_, rfl⟩, q⟩ hl
  generalize datG x = d at rd sh dp hl fin
  have key : ∀ a, u = .ref a → wpAny (model X.prog X.w) X.A (pyReprObj u) (fun r s₂ => wpAny (model X.prog X.w) X.A (formatField r Str.empty) (EP X pins σ Q) X.xe s₂) X.xe s1 := fun a e => by
    subst e
    obtain ⟨T, idr, S⟩ := rd.showsBy (prog := X.prog) (w := X.w) sh hl
    exact wpAny_pyReprObj_slot (by omega) (S.typeIs s1 fun _ _ e => e) S.slotRepr (S.call X.A X.xe s1 _ hg (by omega) (fun _ _ e => e) fun h' u tk hk => ⟨_, _, rfl, fin h' u tk hk⟩)
  cases rd with
  | none => exact pyReprObj_none (fin s1.heap _ _ fun _ _ e => e)
  | bool b => exact pyReprObj_bool (fin s1.heap _ _ fun _ _ e => e)
  | int i t => exact pyReprObj_int (by simpa [PyData.showable] using sh) (fin s1.heap _ _ fun _ _ e => e)
  | str x t => exact pyReprObj_str (fin s1.heap _ _ fun _ _ e => e) hl
  | list h1 h2 h3 h4 => exact key _ rfl
  | tuple h1 h2 h3 h4 => exact key _ rfl
  | dict h0 h1 h2 h3 h4 h5 => exact key _ rfl
theorem d_fmtR (G : XG k X) (h : DE X e w) : DE X (.FormattedValue e 114 none pos) (wFmtR w) := by
  refine ⟨fun ro fr σ H env st Q E S hw => toW (pe_fmtG (by have := G.room.un; omega) G.gd (pe_W X e)) ?_⟩
  exact tW.mono (h _ _ _ _ _ _ _ E S hw) fun v H1 ⟨ro1, x, st1, e1, S1, r1, hi, sh, dp, hl, q⟩ => ⟨x, ro1, fr, r1, hi, sh, dp, hl, ro1, _, st1, e1, S1, .str _, q⟩
end
end Pv
set_option maxHeartbeats 1000000
namespace PvFR
open PySem PySem.Spec L2 PyProof.Rows PySem.W PySem.Builtin PySem.Builtin.List
/-- as the kit's ReprK, where frames are left, too -/
def ReprD (prog : Program) (w : World) (as : List Addr) (h₀ : Heap) (d e : Nat) (x : Value) (t : Str) : Prop :=
  ∀ (base : Nat), base + t.length ≤ sizeLine → ∀ (A : Around) (g : List Code) (E : Value → Shared → Prop) (s : Shared) (Q : Str → Shared → Prop), A.guards = some g → (∀ b ∈ as, Clear g b) →
    A.units + d < cLine ∧ A.depth + e < recursionLimit → (∀ b o, h₀.get? b = some o → s.heap.get? b = some o) →
    (∀ h' tk, (∀ b o, s.heap.get? b = some o → h'.get? b = some o) → Q t { s with heap := h', toks := tk }) → wpAny (model prog w) A (pyReprUnder base x) Q E s
/-- a tuple of data is shown where nothing above it shows it -/
theorem shown_tup (prog : Program) (w : World) {h₀ : Heap} {a : Addr} {xs : List PyData} {as : List Addr} (r : Reads h₀ (.ref a) (.tuple xs) as) (sh : (PyData.tuple xs).showable = true) (nd : (PyData.tuple xs).hasDict = false) (hz : (PyData.tuple xs).shown.length ≤ sizeLine) :
    ∃ bs, ReadAtMost h₀ (PyData.tuple xs).depth bs ∧ ∀ (A : Around) (g : List Code) (E : Value → Shared → Prop) (s : Shared) (Q : Value → Shared → Prop), A.guards = some g → (∀ b ∈ bs, Clear g b) → A.units + (PyData.tuple xs).depth < cLine → (∀ b o, h₀.get? b = some o → s.heap.get? b = some o) →
      (∀ h' u tk, (∀ b o, s.heap.get? b = some o → h'.get? b = some o) → Q (.str (PyData.tuple xs).shown u) { s with heap := h', toks := tk }) → wpAny (model prog w) A (pyReprObj (.ref a)) Q E s := by
  have nd' : PyData.hasDictAll xs = false := by simpa [PyData.hasDict] using nd
  have sh' : PyData.showableAll xs = true := by simpa [PyData.showable] using sh
  have hz' : (tupleText (PyData.shownAll xs)).length ≤ sizeLine := by simpa only [PyData.shown] using hz
  have r0 := r
  cases r with
  | tuple h1 h2 h3 h4 =>
    obtain ⟨bs, hb, hk⟩ := ReprAllK.of_readsAll (prog := prog) (w := w) h4 sh' (fun hx => by rw [nd'] at hx; cases hx) (fun t ht => Nat.le_trans (tupleText_mem_le ht) hz')
    have hna : a ∉ bs := not_mem_of_deeper r0 (by simp only [PyData.depth]; omega) hb
    refine ⟨a :: bs, ReadAtMost.cons r0 (by simp only [PyData.depth]; omega) hb, fun A g E s Q hg hcl hu hk0 hQ => ?_⟩
    simp only [PyData.depth] at hu
    simp only [PyData.shown] at hQ
    exact wpAny_pyReprObj_tupleK h1 h2 h3 hna hk hg hcl (by omega) hk0 hQ hz'
/-- a def that is `return f"..{self.g1!r}..{self.g2!r}.."` -/
structure ReprSt (st : Stmt) (g1 g2 t1 t2 t3 : Str) : Prop where
  sc : FnScope ["self"] ["self"] (defScope st)
  loc : (defScope st).names.lookup ("self" : Str) = some .local
  own : ∀ y ∈ (defScope st).names, y.2 ≠ .cell
  body : ∃ (j1 j2 j3 : Nat) (p1 p2 p3 p4 p5 p6 p7 p8 p9 p10 p11 : Pos), defBody st = [.Return (some (.JoinedStr [.Constant (.str t1) j1 p1, .FormattedValue (.Attribute (.Name "self" p2) g1 p3) 114 none p4, .Constant (.str t2) j2 p5, .FormattedValue (.Attribute (.Name "self" p6) g2 p7) 114 none p8, .Constant (.str t3) j3 p9] p10)) p11] ∧
    (∀ env : Env, attributeBase (.Name "self" p2) g1 env (eval (.Name "self" p2) env) = eval (.Name "self" p2) env) ∧ (∀ env : Env, attributeBase (.Name "self" p6) g2 env (eval (.Name "self" p6) env) = eval (.Name "self" p6) env)
section
variable {prog : Program} {w : World} {K : Frag} {C f x dx : Addr} {fd : FuncData} {mA : Str → Option Value} {st : Stmt} {g1 g2 t1 t2 t3 qual : Str} {h₀ : Heap} {b1 b2 : Addr} {xs1 xs2 : List PyData} {as1 as2 : List Addr}
theorem call_own (KX : K.In h₀) (lim : h₀.NoLimit) (O : ObjM h₀ x dx C mA) (cl : Cls K C) (n1 : NoAttr K C g1) (n2 : NoAttr K C g2) (R : ReprSt st g1 g2 t1 t2 t3) (F : L2.Fun K "__repr__" qual st f fd) (B : Binds K fd ["self"] [])
    (v1 : mA g1 = some (.ref b1)) (v2 : mA g2 = some (.ref b2)) (r1 : Reads h₀ (.ref b1) (.tuple xs1) as1) (r2 : Reads h₀ (.ref b2) (.tuple xs2) as2)
    (sh1 : (PyData.tuple xs1).showable = true) (sh2 : (PyData.tuple xs2).showable = true) (nd1 : (PyData.tuple xs1).hasDict = false) (nd2 : (PyData.tuple xs2).hasDict = false)
    (hz : (t1 ++ (PyData.tuple xs1).shown ++ t2 ++ (PyData.tuple xs2).shown ++ t3).length ≤ sizeLine) :
    ∃ bs, ReadAtMost h₀ (max (PyData.tuple xs1).depth (PyData.tuple xs2).depth) bs ∧ ∀ (A : Around) (g : List Code) (E : Value → Shared → Prop) (s : Shared) (Q : Value → Shared → Prop), A.guards = some g → (∀ b ∈ bs, Clear g b) →
      A.units + (max (PyData.tuple xs1).depth (PyData.tuple xs2).depth + 5) < cLine → A.depth < recursionLimit → (∀ b o, h₀.get? b = some o → s.heap.get? b = some o) →
      (∀ h' u tk, (∀ b o, s.heap.get? b = some o → h'.get? b = some o) → Q (.str (t1 ++ (PyData.tuple xs1).shown ++ t2 ++ (PyData.tuple xs2).shown ++ t3) u) { s with heap := h', toks := tk }) → wpAny (model prog w) A (call (.ref f) [.ref x]) Q E s := by
  have hl1 : (PyData.tuple xs1).shown.length ≤ sizeLine := by simp only [strLen_append] at hz; omega
  have hl2 : (PyData.tuple xs2).shown.length ≤ sizeLine := by simp only [strLen_append] at hz; omega
  obtain ⟨bs1, hb1, k1⟩ := shown_tup prog w r1 sh1 nd1 hl1
  obtain ⟨bs2, hb2, k2⟩ := shown_tup prog w r2 sh2 nd2 hl2
  refine ⟨bs1 ++ bs2, (hb1.mono (Nat.le_max_left _ _)).append (hb2.mono (Nat.le_max_right _ _)), fun A g E s Q hg hcl hu hd hk0 hQ => ?_⟩
  have KXs : K.In s.heap := KX.keeps hk0
  have lims : s.heap.NoLimit := lim.keeps hk0
  obtain ⟨oc, od, kV, doc, pm, an, cdv, ct, osl, rfl, lk, hcd⟩ := F.ex
  refine wpAny_call ?_
  refine codeAny_call_function hd (KXs _ _ lk) rfl R.sc.co R.sc.gen rfl (codeRec_of KXs hcd) (B s [.ref x] KXs rfl _ _ _ _ ?_)
  refine wpAny_newFunctionEnv R.own (fun y hy => ?_) (fun h₁ hns hsb => ⟨lims.fresh _ hsb, ?_⟩) R.sc.kind
  · rw [List.mem_singleton.mp hy]; exact R.loc
  have kp : ∀ b o, s.heap.get? b = some o → h₁.get? b = some o := fun b o e => hsb.extBut b o (Nat.ne_of_lt (Heap.lt_size e)) (Heap.get?_push_of_some _ e)
  obtain ⟨j1, j2, j3, p1, p2, p3, p4, p5, p6, p7, p8, p9, p10, p11, eb, ab1, ab2⟩ := R.body
  have hgd : ∀ env : Env, (A.deeper env).guards = some g := fun env => by first | exact hg | simpa [Around.deeper] using hg
  have hud : ∀ env : Env, (A.deeper env).units + (max (PyData.tuple xs1).depth (PyData.tuple xs2).depth + 2) < cLine := fun env => by show A.units + 3 + _ < cLine; omega
  have key : ∀ (env : Env) (E' : Value → Shared → Prop) (T : Nat), env.scope = defScope st → env.locals = s.heap.objs.size →
      wpAny (model prog w) (A.deeper env) (execs [.Return (some (.JoinedStr [.Constant (.str t1) j1 p1, .FormattedValue (.Attribute (.Name "self" p2) g1 p3) 114 none p4, .Constant (.str t2) j2 p5, .FormattedValue (.Attribute (.Name "self" p6) g2 p7) 114 none p8, .Constant (.str t3) j3 p9] p10)) p11] env)
        (fun fl s' => Q (match fl with | .ret v => v | _ => .none) s') E' { s with heap := h₁, toks := T } := fun env E' T e1 e2 => by
    have self : ∀ (h : Heap) (T' : Nat) (p : Pos) (Q' : Value → Shared → Prop), (∀ b o, h₁.get? b = some o → h.get? b = some o) → Q' (.ref x) { s with heap := h, toks := T' } → wpAny (model prog w) (A.deeper env) (eval (.Name "self" p) env) Q' E' { s with heap := h, toks := T' } := fun h T' p Q' kh q => by
      have hns2 : h₁.Ns s.heap.objs.size (fun y => [(Str.ofString "self", Value.ref x)].lookup y) := hns
      refine wpAny_Name (wpAny_loadName_local (m := fun y => [(Str.ofString "self", Value.ref x)].lookup y) (v := .ref x) (by rw [e1]; exact R.sc.kind) (by unfold Env.kindOf; rw [e1]; exact R.loc) (by rw [e2]; exact hns2.keeps kh) ?_ q) (by decide +kernel)
      simp [List.lookup]
    have hE : Str.empty ++ t1 = t1 := by
      show (⟨#[] ++ t1.cps⟩ : Str) = t1
      simp
    have hz1 : t1.length ≤ sizeLine ∧ (t1 ++ (PyData.tuple xs1).shown).length ≤ sizeLine ∧ (t1 ++ (PyData.tuple xs1).shown ++ t2).length ≤ sizeLine ∧ (t1 ++ (PyData.tuple xs1).shown ++ t2 ++ (PyData.tuple xs2).shown).length ≤ sizeLine := by
      simp only [strLen_append] at hz ⊢
      omega
    obtain ⟨z1, z2, z3, z4⟩ := hz1
    have ob : ∀ (h : Heap), (∀ b o, s.heap.get? b = some o → h.get? b = some o) → ObjM h x dx C mA := fun h kh => ⟨kh _ _ (hk0 _ _ O.obj), O.ns.at fun o e => kh _ _ (hk0 _ _ e), O.ne⟩
    refine wpAny_execs_cons (wpAny_Return_some ?_)
    refine wpAny_JoinedStr ?_
    refine wpAny_Constant_str ⟨_, _, rfl, by rw [hE]; exact z1, ?_⟩
    rw [hE]
    refine wpAny_FormattedValue_repr (attr_of (ab1 env) (self _ _ _ _ (fun _ _ e => e) ?_))
    refine get_map (KXs.keeps kp) (ob _ kp) (cl.get g1) cl.hd n1 v1 rfl ?_
    refine k1 (A.deeper env) g E' _ _ (hgd env) (fun b m => hcl b (List.mem_append_left _ m)) (by have := hud env; omega) (fun b o e => kp _ _ (hk0 _ _ e)) fun h2 u2 tk2 kp2 => ?_
    have fin2 : ∀ (u : Tok) (T2 : Nat), Joins (model prog w) (A.deeper env) E' (evalEach [.Constant (.str t2) j2 p5, .FormattedValue (.Attribute (.Name "self" p6) g2 p7) 114 none p8, .Constant (.str t3) j3 p9] env) (t1 ++ (PyData.tuple xs1).shown)
        (fun out s₁ => out.length ≤ sizeLine ∧ Q (.str out s₁.toks) { s₁ with toks := s₁.toks + 1 }) { s with heap := h2, toks := T2 } := fun u T2 => by
      refine wpAny_Constant_str ⟨_, _, rfl, z3, ?_⟩
      refine wpAny_FormattedValue_repr (attr_of (ab2 env) (self _ _ _ _ (fun b o e => kp2 _ _ e) ?_))
      have kp3 : ∀ b o, s.heap.get? b = some o → h2.get? b = some o := fun b o e => kp2 _ _ (kp _ _ e)
      refine get_map (KXs.keeps kp3) (ob _ kp3) (cl.get g2) cl.hd n2 v2 rfl ?_
      refine k2 (A.deeper env) g E' _ _ (hgd env) (fun b m => hcl b (List.mem_append_right _ m)) (by have := hud env; omega) (fun b o e => kp3 _ _ (hk0 _ _ e)) fun h4 u4 tk4 kp4 => ?_
      have fin4 : ∀ (T4 : Nat), Joins (model prog w) (A.deeper env) E' (evalEach [.Constant (.str t3) j3 p9] env) (t1 ++ (PyData.tuple xs1).shown ++ t2 ++ (PyData.tuple xs2).shown)
          (fun out s₁ => out.length ≤ sizeLine ∧ Q (.str out s₁.toks) { s₁ with toks := s₁.toks + 1 }) { s with heap := h4, toks := T4 } := fun T4 =>
        wpAny_Constant_str ⟨_, _, rfl, hz, hz, hQ h4 _ _ fun b o e => kp4 _ _ (kp3 _ _ e)⟩
      exact wpAny_formatField_str ⟨_, _, rfl, z4, fin4 _⟩ ⟨_, _, rfl, z4, fin4 _⟩ hl2
    exact wpAny_formatField_str ⟨_, _, rfl, z2, fin2 0 _⟩ ⟨_, _, rfl, z2, fin2 0 _⟩ hl1
  refine codeAny_func ?_
  rw [eb]
  exact key _ _ _ rfl rfl
/-- a special method that is a def, called by whatever asks for it -/
theorem boundBy_K {M : Model} {A : Around} {E : Value → Shared → Prop} {s : Shared} {ox : Obj} {od : Option Obj} {name : Str} {last : Value → List Value → Sem Value} {Q : Option Value → Shared → Prop} (X : K.In s.heap) (I : InstAt s.heap x ox C od) (hs : findIn K (.ref C) name = some (some (.ref f))) (hf : isFn K (.ref f) = true)
    (h : wpAny M A (last (.ref f) [.ref x]) (fun v => Q (some v)) E s) : wpAny M A (callSpecialIfBoundBy? last (.ref x) name) Q E s := by
  simp only [callSpecialIfBoundBy?, bindSpecialIfBound?]
  refine wpAny_holding (wpAny_bind (wpAny_bind (wpAny_bind (I.type.here ((looks_findIn X hs).here ?_)))))
  refine wpAny_bind (wpAny_askSetting (wpAny_ite ?_))
  have fin : wpAny M A (last (.ref f) [.ref x] >>= fun v => pure (some v)) Q E s := wpAny_bind (wpAny_mono h (fun v s' h' => wpAny_pure h') fun _ _ h' => h')
  split
  · exact wpAny_bind ((bind_fn X _ (beq_iff_eq.mp hf)).here (wpAny_pure (by exact fin)))
  · exact wpAny_tryCatch (wpAny_bind ((bind_fn X _ (beq_iff_eq.mp hf)).here (wpAny_pure (by exact fin))))
theorem reprD_own (KX : K.In h₀) (lim : h₀.NoLimit) (O : ObjM h₀ x dx C mA) (cl : Cls K C) (n1 : NoAttr K C g1) (n2 : NoAttr K C g2) (R : ReprSt st g1 g2 t1 t2 t3) (F : L2.Fun K "__repr__" qual st f fd) (M : Meth K C "__repr__" f) (B : Binds K fd ["self"] [])
    (v1 : mA g1 = some (.ref b1)) (v2 : mA g2 = some (.ref b2)) (r1 : Reads h₀ (.ref b1) (.tuple xs1) as1) (r2 : Reads h₀ (.ref b2) (.tuple xs2) as2)
    (sh1 : (PyData.tuple xs1).showable = true) (sh2 : (PyData.tuple xs2).showable = true) (nd1 : (PyData.tuple xs1).hasDict = false) (nd2 : (PyData.tuple xs2).hasDict = false)
    (hz : (t1 ++ (PyData.tuple xs1).shown ++ t2 ++ (PyData.tuple xs2).shown ++ t3).length ≤ sizeLine) :
    ∃ bs, ReadAtMost h₀ (max (PyData.tuple xs1).depth (PyData.tuple xs2).depth) bs ∧ ReprD prog w bs h₀ (max (PyData.tuple xs1).depth (PyData.tuple xs2).depth + 5) 0 (.ref x) (t1 ++ (PyData.tuple xs1).shown ++ t2 ++ (PyData.tuple xs2).shown ++ t3) := by
  obtain ⟨bs, hb, key⟩ := call_own (prog := prog) (w := w) KX lim O cl n1 n2 R F B v1 v2 r1 r2 sh1 sh2 nd1 nd2 hz
  refine ⟨bs, hb, fun base hbs A g E s Q hg hcl hu hk0 hQ => ?_⟩
  have KXs : K.In s.heap := KX.keeps hk0
  have Os : ObjM s.heap x dx C mA := ⟨hk0 _ _ O.obj, O.ns.at fun o e => hk0 _ _ e, O.ne⟩
  obtain ⟨od, J, _⟩ := Os.look
  refine wpAny_pyReprUnder_ref (by omega) ?_
  unfold pyReprObjUnder pyReprObjBy
  refine wpAny_bind (wpAny_cRoomFor (by omega) ?_)
  refine wpAny_bind (m := specialOf (.ref x) _) (wpAny_bind (J.type.here ((looks_findIn KXs M.at_).here ?_)))
  show wpAny _ _ (if (some (Value.ref f)).isNone = true then _ else _) _ _ _
  rw [if_neg (by simp)]
  refine wpAny_bind (m := callSpecialIfBoundBy? _ (.ref x) (Str.ofString "__repr__")) (boundBy_K KXs J M.at_ M.fn ?_)
  show wpAny _ _ (call (.ref f) [.ref x]) _ _ _
  refine key A g E s _ hg hcl hu.1 (by omega) hk0 fun h' u tk kp => ?_
  exact wpAny_bind (wpAny_isInstance (T := "str") (b := true) rfl isSubtype_str_str (wpAny_pure ⟨_, _, rfl, hQ h' tk kp⟩))
end
theorem depth_loop (A : Around) (y : Args) : (A.under (.builtin "list.__repr__.loop" y)).depth = A.depth + 1 := by
  have hg : (Code.builtin "list.__repr__.loop" y).isGuard = true := isGuard_list_loop y
  show A.depth + (Code.builtin "list.__repr__.loop" y).weight = _
  unfold Code.weight
  rw [hg]
  have h1 : (Code.builtin "list.__repr__.loop" y).frames = 0 := by first | rfl | simp [Code.frames, Code.isFrame]
  have h2 : (Code.builtin "list.__repr__.loop" y).isCreation = false := by first | rfl | (simp [Code.isCreation]; done) | decide +kernel
  have h3 : (Code.builtin "list.__repr__.loop" y).isCaller = false := by first | rfl | (simp [Code.isCaller]; done) | decide +kernel
  rw [h1, h2, h3]
  rfl
section
variable {prog : Program} {w : World} {A : Around} {R : Result → Shared → Prop}
theorem loopD {a P : Addr} (hne : a ≠ P) {ys : Array Value} {zs : List Str} {as : List Addr} {h₀ : Heap} {d e b0 : Nat} {g : List Code} (hg : A.guards = some g) (hcl : ∀ b ∈ as, Clear g b) (hu : A.units + (d + 1) < cLine) (hd : A.depth + (e + 1) < recursionLimit) (hna : a ∉ as) (hPf : h₀.get? P = none) (hlen : zs.length = ys.size)
    (hT : ∀ (j : Nat) (y : Value), ys[j]? = some y → ∃ z, zs[j]? = some z ∧ ReprD prog w as h₀ d e y z) (hsz : b0 + (listText zs).length ≤ sizeLine) :
    ∀ (k j : Nat) (s : Shared) (oa : Obj) (na : Nat) (acc : Array Value) (c : Nat) (done : List (Str × Tok)), ys.size - j = k → j ≤ ys.size → (∀ b o, h₀.get? b = some o → s.heap.get? b = some o) → s.heap.get? a = some oa → oa.data = .seq ys na →
    s.heap.get? P = some { cls := .type "list", dict := none, data := .seq acc c, slots := #[] } → acc.toList = strValues done → done.map (·.1) = zs.take j → (∀ h' u tk, (∀ b o, b ≠ P → s.heap.get? b = some o → h'.get? b = some o) → R (.ok (.ret (.str (listText zs) u))) { s with heap := h', toks := tk }) →
    codeAny (model prog w) A (.builtin "list.__repr__.loop" ⟨[.ref a, rawInt j, .ref P, rawInt ((b0 + piled (zs.take j) : Nat) : Int)], []⟩) R s := by
  have zX : (listText zs).length = (textFrom 0 "[" zs).length + 1 := by
    show (textFrom 0 "[" zs ++ "]").length = (textFrom 0 "[" zs).length + 1
    rw [strLen_append]; rfl
  have zL := textFrom_len zs 0 "["
  have z1 : ys.size ≤ sizeLine := by
    have q := zL.1
    rw [if_neg (Nat.lt_irrefl 0)] at q; omega
  have z2 : ∀ z ∈ zs, z.length ≤ sizeLine := fun z mz => by have q := zL.2.1 z mz; omega
  have z3 : (listText zs).length ≤ sizeLine := by omega
  have zp := piled_le_listText zs
  intro k
  induction k with
  | zero =>
    intro j s oa na acc c done hk hi hk0 ha hda hP hacc hdone hR
    have hin : j = ys.size := by omega
    refine codeAny_builtin F.entry_list_repr_loop ?_
    show wpAny _ _ («list.__repr__.loop» ⟨[.ref a, .int j 0, .ref P, .int ((b0 + piled (zs.take j) : Nat) : Int) 0], []⟩) _ _ s
    rw [repr_loop_tree]
    refine wpAny_bind (wpAny_listItems ha hda ?_)
    have e0 : ys[(j : Int).toNat]? = none := by simp [hin]
    simp only [e0]
    unfold reprEnd
    refine wpAny_bind (wpAny_listItems hP rfl ?_)
    rw [hacc, repr_fold]
    refine wpAny_bind (wpAny_pure ?_)
    rw [show done.map (·.1) = zs by rw [hdone, hin, ← hlen, List.take_length]]
    exact wpAny_bind (wpAny_mkStr (wpAny_pure (hR s.heap _ _ fun _ _ _ e => e)) z3)
  | succ k ih =>
    intro j s oa na acc c done hk hi hk0 ha hda hP hacc hdone hR
    have hlt : j < ys.size := by omega
    obtain ⟨z, hz, hrep⟩ := hT j ys[j] (by simp [hlt])
    have q1 := piled_take_succ hz
    have q2 := piled_take_le zs (j + 1)
    refine codeAny_builtin F.entry_list_repr_loop ?_
    show wpAny _ _ («list.__repr__.loop» ⟨[.ref a, .int j 0, .ref P, .int ((b0 + piled (zs.take j) : Nat) : Int) 0], []⟩) _ _ s
    rw [repr_loop_tree]
    refine wpAny_bind (wpAny_listItems ha hda ?_)
    have e0 : ys[(j : Int).toNat]? = some ys[j] := by simp [hlt]
    simp only [e0]
    rw [Int.toNat_natCast]
    refine wpAny_bind (wpAny_holding (hrep (b0 + piled (zs.take j) + 1) (by omega) _ _ _ _ _ (guards_under_guard (isGuard_list_loop _) hg) (fun b hb => (hcl b hb).cons (a := a) fun e => hna (e ▸ hb)) ⟨by rw [units_under_list_loop]; omega, by rw [depth_loop]; omega⟩ hk0 fun h' tk hkp => ?_))
    refine wpAny_bind (wpAny_mkStr (wpAny_bind ?_) (z2 z (List.mem_of_getElem? hz)))
    show wpAny _ _ (updateSeq P _) _ _ _
    have hasz : acc.size ≤ sizeLine := by
      have w1 : acc.toList.length = acc.size := by simp
      have w2 : (strValues done).length = done.length := by simp [strValues]
      have w3 : done.length = (zs.take j).length := by rw [← hdone, List.length_map]
      have w4 : (zs.take j).length ≤ j := by rw [List.length_take]; omega
      rw [hacc] at w1; omega
    refine wpAny_updateSeq (hkp _ _ hP) rfl (wpAny_pure ⟨F.quiet_list_repr_loop _, ?_⟩) hasz
    rw [show ((j : Int) + 1) = ((j + 1 : Nat) : Int) by omega, show b0 + piled (zs.take j) + (z.length + 2) = b0 + piled (zs.take (j + 1)) by omega]
    refine ih (j + 1) _ oa na (acc.push (.str z tk)) _ (done ++ [(z, tk)]) (by omega) hlt (fun b o e => (Heap.get?_update_other _ _ fun q : P = b => by rw [← q, hPf] at e; cases e).trans (hkp _ _ (hk0 _ _ e)))
      ((Heap.get?_update_other _ _ fun q : P = a => hne q.symm).trans (hkp _ _ ha)) hda (Heap.get?_update_self _ (hkp _ _ hP) rfl) (by simp [hacc, strValues]) (by simp [List.take_add_one, hz, hdone]) fun h'' u tk' hh => hR h'' u tk' fun b o hb e => hh b o hb ((Heap.get?_update_other _ _ fun q : P = b => hb q.symm).trans (hkp _ _ e))
end
section
variable {prog : Program} {w : World}
theorem reprAtD {as : List Addr} {h₀ : Heap} {d e : Nat} {a : Addr} {oa : Obj} {y : Value} {l : List Value} {na : Nat} {zs : List Str} (ha : h₀.get? a = some oa) (hda : oa.data = .seq (y :: l).toArray na) (hna : a ∉ as) (hlen : zs.length = (y :: l).toArray.size)
    (hT : ∀ (j : Nat) (v : Value), (y :: l).toArray[j]? = some v → ∃ z, zs[j]? = some z ∧ ReprD prog w as h₀ d e v z) {A : Around} {g : List Code} {s : Shared} {R : Result → Shared → Prop} {b0 : Nat} (hg : A.guards = some g) (hcl : ∀ b ∈ a :: as, Clear g b) (hu : A.units + (d + 1) < cLine) (hd : A.depth + (e + 1) < recursionLimit) (hk0 : ∀ b o, h₀.get? b = some o → s.heap.get? b = some o)
    (hR : ∀ h' u tk, (∀ b o, s.heap.get? b = some o → h'.get? b = some o) → R (.ok (.ret (.str (listText zs) u))) { s with heap := h', toks := tk }) (hsz : b0 + (listText zs).length ≤ sizeLine) :
    wpAny (model prog w) A.in1 (Builtin.listReprAt b0 ⟨[.ref a], []⟩) (fun fin s' => match fin with | .done f => R (.ok f) s' | .again c' => c'.quiet = true ∧ codeAny (model prog w) A c' R s') (fun e s' => R (.error e) s') s := by
  have hca : Clear g a := hcl a List.mem_cons_self
  have hPf : h₀.get? s.heap.objs.size = none := by
    cases e : h₀.get? s.heap.objs.size with
    | none => rfl
    | some o => exact absurd (Heap.lt_size (hk0 _ _ e)) (Nat.lt_irrefl _)
  refine wpAny_list_repr_head (A := A.in1) hg (fun v rest kw hm => listSameRef_of_ne (hca _ _ _ _ hm)) (hk0 _ _ ha) hda (wpAny_bind (m := newList []) (wpAny_newObj_type (wpAny_pure ⟨F.quiet_list_repr_loop _, ?_⟩)))
  refine loopD (P := s.heap.objs.size) (Nat.ne_of_lt (Heap.lt_size (hk0 _ _ ha))) hg (fun b hb => hcl b (List.mem_cons_of_mem _ hb)) hu hd hna hPf hlen hT hsz _ 0 _ oa na #[] _ [] rfl (Nat.zero_le _) (fun b o e => Heap.get?_push_of_some _ (hk0 _ _ e)) (Heap.get?_push_of_some _ (hk0 _ _ ha)) hda (Heap.get?_push_size _ rfl) rfl (by simp) fun h' u tk hk => ?_
  exact hR h' u tk fun b o e => hk b o (Nat.ne_of_lt (Heap.lt_size e)) (Heap.get?_push_of_some _ e)
end
end PvFR
namespace Pv
open PySem PySem.Spec L2 PvFR
/-- the class C has this __repr__ -/
structure OwnR (K : PySem.W.Frag) (C : Addr) (g1 g2 t1 t2 t3 : Str) : Prop where
  ex : ∃ (qual : Str) (st : Stmt) (f : Addr) (fd : FuncData), L2.Fun K "__repr__" qual st f fd ∧ Meth K C "__repr__" f ∧ Binds K fd ["self"] [] ∧ ReprSt st g1 g2 t1 t2 t3
  cl : Cls K C
  n1 : NoAttr K C g1
  n2 : NoAttr K C g2
/-- an object and how it is shown -/
def ShO (C : Addr) (g1 g2 t1 t2 t3 : Str) (st : Sto) (x : PV) (z : Str) : Prop := ∃ p q xs1 xs2, x = .ins C [g1, g2] [p, q] ∧ datS st p = some (.tuple xs1) ∧ datS st q = some (.tuple xs2) ∧ (PyData.tuple xs1).showable = true ∧ (PyData.tuple xs2).showable = true ∧
  (PyData.tuple xs1).hasDict = false ∧ (PyData.tuple xs2).hasDict = false ∧ (PyData.tuple xs1).depth ≤ 30 ∧ (PyData.tuple xs2).depth ≤ 30 ∧ z = t1 ++ (PyData.tuple xs1).shown ++ t2 ++ (PyData.tuple xs2).shown ++ t3
inductive ShOs (C : Addr) (g1 g2 t1 t2 t3 : Str) (st : Sto) : List PV → List Str → Prop
  | nil : ShOs C g1 g2 t1 t2 t3 st [] []
  | cons {x : PV} {z : Str} {xs : List PV} {zs : List Str} : ShO C g1 g2 t1 t2 t3 st x z → ShOs C g1 g2 t1 t2 t3 st xs zs → ShOs C g1 g2 t1 t2 t3 st (x :: xs) (z :: zs)
theorem ShOs.len {C : Addr} {g1 g2 t1 t2 t3 : Str} {st : Sto} : ∀ {xs : List PV} {zs : List Str}, ShOs C g1 g2 t1 t2 t3 st xs zs → zs.length = xs.length
  | _, _, .nil => rfl
  | _, _, .cons _ h => by simp [h.len]
section
variable {X : Cx} {k : Nat} {C : Addr} {g1 g2 t1 t2 t3 : Str}
theorem sho_reprs {pins : List (Addr × Obj)} {σ : L2.St} {H : Hp} {s : Shared} {ro fr : List Addr} {st : Sto} (O : OwnR X.K C g1 g2 t1 t2 t3) (hne : g1 ≠ g2) (I : Inv X pins σ H s) (S : RepS X.K ro fr H st) {x : PV} {z : Str} {v : V} {u : Value} (h : ShO C g1 g2 t1 t2 t3 st x z) (r : RepV X.K ro fr H x v) (ru : RelV v u) (hz : z.length ≤ sizeLine) :
    ∃ bs, ReadAtMost s.heap 30 bs ∧ ReprD X.prog X.w bs s.heap 35 0 u z ∧ ∃ a ox, u = .ref a ∧ s.heap.get? a = some ox ∧ ox.cls = .ref C := by
  obtain ⟨p, q, xs1, xs2, rfl, h1, h2, s1, s2, d1, d2, e1, e2, rfl⟩ := h
  obtain ⟨qual, stt, f, fd, F, M, B, R⟩ := O.ex
  cases r with
  | @ins A1 _ _ _ kv i1 hk rs =>
    obtain ⟨⟨dx, gA⟩, _⟩ := i1
    cases ru
    obtain ⟨mA, J, rl, _, _, _⟩ := ins_get I.hok gA
    match kv, hk, rs with
    | [(k1, w1), (k2, w2)], hk, rs =>
      simp only [List.map_cons, List.map_nil, List.cons.injEq, and_true] at hk
      obtain ⟨rfl, rfl⟩ := hk
      cases rs with
      | cons ra rs => cases rs with
        | cons rb _ =>
          have l1 : List.lookup k1 [(k1, w1), (k2, w2)] = some w1 := by simp [List.lookup]
          have l2 : List.lookup k2 [(k1, w1), (k2, w2)] = some w2 := by
            have : (k2 == k1) = false := beq_eq_false_iff_ne.mpr fun z => hne z.symm
            simp [List.lookup, this]
          obtain ⟨u1, m1, v1⟩ := RelO.some_of (v := w1) (o := mA k1) (by rw [← l1]; exact rl k1)
          obtain ⟨u2, m2, v2⟩ := RelO.some_of (v := w2) (o := mA k2) (by rw [← l2]; exact rl k2)
          obtain ⟨as1, r1⟩ := Dp.reads I _ _ _ (datS_at S ra h1) v1
          obtain ⟨as2, r2⟩ := Dp.reads I _ _ _ (datS_at S rb h2) v2
          have t1 : ∃ b, u1 = .ref b := by cases r1; exact ⟨_, rfl⟩
          have t2 : ∃ b, u2 = .ref b := by cases r2; exact ⟨_, rfl⟩
          obtain ⟨b1, rfl⟩ := t1
          obtain ⟨b2, rfl⟩ := t2
          obtain ⟨bs, hb, key⟩ := reprD_own (prog := X.prog) (w := X.w) I.kIn I.nolimit J O.cl O.n1 O.n2 R F M B m1 m2 r1 r2 s1 s2 d1 d2 hz
          refine ⟨bs, hb.mono (Nat.max_le.mpr ⟨e1, e2⟩), fun base hbs A g E s' Q hg hcl hu => key base hbs A g E s' Q hg hcl ⟨by have := Nat.max_le.mpr ⟨e1, e2⟩; omega, hu.2⟩, A1, _, rfl, J.obj, rfl⟩
end
end Pv
set_option maxHeartbeats 4000000
namespace PvOS
open PySem PySem.Spec PySem.Calls PyProof.Rows PySem.W
section
variable {prog : Program} {w : World} {A : Around} {E : Value → Shared → Prop} {s : Shared} {K : Frag} {x C f : Addr} {ox : Obj} {od : Option Obj}
theorem special_no {name : Str} {args : List Value} {Q : Option Value → Shared → Prop} (X : K.In s.heap) (I : InstAt s.heap x ox C od) (hf : findIn K (.ref C) name = some none) (h : Q none s) : wpAny (model prog w) A (callSpecial? (.ref x) name args) Q E s := by
  unfold callSpecial? specialOf
  exact wpAny_bind (wpAny_bind (I.type.here ((looks_findIn X hf).here (wpAny_pure h))))
/-- the truth of an object that has a length -/
theorem truthyO {Q : Bool → Shared → Prop} (X : K.In s.heap) (I : InstAt s.heap x ox C od) (hn : findIn K (.ref C) "__bool__" = some none) (hs : findIn K (.ref C) "__len__" = some (some (.ref f))) (hf : isFn K (.ref f) = true)
    (hcall : wpAny (model prog w) A.in1 (call (.ref f) [.ref x]) (fun r s' => ∃ n u, r = .int n u ∧ 0 ≤ n ∧ n < 2 ^ 63 ∧ Q (n != 0) { s' with toks := s'.toks + 1 }) E s) :
    wpAny (model prog w) A (truthy (.ref x)) Q E s := by
  have key : wpAny (model prog w) A (runValue (.builtin "len" ⟨[.ref x], []⟩)) (fun r s' => ∃ n t, r = .int n t ∧ Q (n != 0) s') E s := by
    refine wpAny_runValue (codeAny_builtin entry_len ?_)
    rw [Around.under_plainId plain_len _]
    unfold Builtin.«len»
    refine wpAny_bind (m := oneArg "len" _) (wpAny_pure ?_)
    refine wpAny_bind (m := callSpecial? (.ref x) (Str.ofString "__len__")) (special_fn X I hs (beq_iff_eq.mp hf) (wpAny_mono hcall (fun r s' hr => ?_) fun _ _ y => y))
    obtain ⟨n, u, rfl, h0, h1, hq⟩ := hr
    refine wpAny_bind (wpAny_holding (wpAny_pure ?_))
    refine wpAny_bind (wpAny_letGo ?_)
    show wpAny _ _ (if n < 0 then _ else _) _ _ _
    rw [if_neg (by omega)]
    show wpAny _ _ (if n ≥ 2 ^ 63 then _ else _) _ _ _
    rw [if_neg (by omega)]
    exact wpAny_bind (wpAny_mkInt (wpAny_pure ⟨_, _, rfl, hq⟩))
  have hsp : ∀ {Q' : Option Value → Shared → Prop}, Q' (some (.ref f)) s → wpAny (model prog w) A (specialOf (.ref x) "__len__") Q' E s := fun q => by
    unfold specialOf
    exact wpAny_bind (I.type.here ((looks_findIn X hs).here q))
  unfold truthy
  first
    | refine wpAny_bind (special_no (name := Str.ofString "__bool__") X I hn ?_)
    | refine wpAny_bind (wpAny_pure (wpAny_bind (special_no (name := Str.ofString "__bool__") X I hn ?_)))
  first
    | refine wpAny_bind (hsp ?_)
    | refine wpAny_bind (wpAny_pure (wpAny_bind (hsp ?_)))
  first
    | exact wpAny_bind (wpAny_mono key (fun r s' h' => by obtain ⟨n, t, rfl, hq⟩ := h'; exact wpAny_pure hq) fun _ _ e => e)
    | exact wpAny_bind (wpAny_pure (wpAny_bind (wpAny_mono key (fun r s' h' => by obtain ⟨n, t, rfl, hq⟩ := h'; exact wpAny_pure hq) fun _ _ e => e)))
open Builtin Builtin.Str in
theorem str_KO {Q : Value → Shared → Prop} (hu : A.in1.in1.units < cLine) (X : K.In s.heap) (I : InstAt s.heap x ox C od) (hs : findIn K (.ref C) "__str__" = some (some (.ref f))) (hf : isFn K (.ref f) = true)
    (h : wpAny (model prog w) A.in1.in1 (call (.ref f) [.ref x]) (fun r s' => ∃ m tk, r = .str m tk ∧ Q (.str m tk) s') E s) : wpAny (model prog w) A (call (.type "str") [.ref x]) Q E s := by
  refine callType_codes (T := "str") (Bi := Builtin.«object.__init__») (Q₁ := fun r s₁ => ∃ y u, r = .str y u ∧ Q r s₁) PySem.F.called_str (PySem.F.typeCall_str_1 _) PySem.F.entry_object_init ?_ ?_
  · refine codeAny_of_tree ?_
    show wpAny _ A.in1.in1 (do checkBuiltinCall "str.__new__" ⟨[.type "str", .ref x], []⟩; again (.builtin "str.__new__" ⟨[.type "str", .ref x], []⟩)) _ _ s
    refine wpAny_bind (wpAny_of_eq (PySem.F.newCall_str_1 _) (wpAny_pure ⟨plainId_quiet (by decide +kernel) _, codeAny_builtin PySem.F.entry_str_new ?_⟩))
    rw [Around.under_plainId (by decide +kernel) _]
    rw [str_new_tree]
    refine wpAny_bind (wpAny_pure ?_)
    refine wpAny_bind (wpAny_of_eq isSubtype_str_str ?_)
    have key : wpAny (model prog w) A.in1.in1 (PySem.Builtin.Str.strOf (.ref x)) (fun r s₁ => ∃ y u, r = .str y u ∧ Q r s₁) E s := by
      unfold PySem.Builtin.Str.strOf
      rw [show isExactStr (.ref x) = false from rfl]
      refine wpAny_bind (m := cRoomFor _ _) (wpAny_cRoomFor hu ?_)
      refine wpAny_bind (m := callSpecial? (.ref x) (Str.ofString "__str__")) (special_fn X I hs (beq_iff_eq.mp hf) (wpAny_mono h (fun r s' z => ?_) fun _ _ y => y))
      obtain ⟨m, tk, rfl, q⟩ := z
      exact wpAny_pure ⟨_, _, rfl, q⟩
    exact wpAny_bind (wpAny_mono key (fun r s₁ hr => wpAny_pure hr) fun _ _ y => y)
  · rintro obj s₁ ⟨y, u, rfl, hq⟩
    exact ⟨typeIs_str _ _ _, PySem.F.args_object_init_2 _ _, object_init_meets PySem.F.called_str.init.lookup PySem.F.called_str.made (by decide) prog w A.in1 _ s₁ ⟨typeIs_str _ _ _, rfl, hq⟩⟩
theorem bool_KO {Q : Value → Shared → Prop} (X : K.In s.heap) (I : InstAt s.heap x ox C od) (hn : findIn K (.ref C) "__bool__" = some none) (hs : findIn K (.ref C) "__len__" = some (some (.ref f))) (hf : isFn K (.ref f) = true)
    (hcall : wpAny (model prog w) A.in1.in1.in1 (call (.ref f) [.ref x]) (fun r s' => ∃ n u, r = .int n u ∧ 0 ≤ n ∧ n < 2 ^ 63 ∧ Q (.bool (n != 0)) { s' with toks := s'.toks + 1 }) E s) :
    wpAny (model prog w) A (call (.type "bool") [.ref x]) Q E s := by
  refine callType_codes (T := "bool") (Bi := Builtin.«object.__init__») (Q₁ := fun r s₁ => ∃ b, r = .bool b ∧ Q r s₁) PySem.F.called_bool (PySem.F.typeCall_bool_1 _) PySem.F.entry_object_init ?_ ?_
  · refine codeAny_of_tree ?_
    show wpAny _ A.in1.in1 (do checkBuiltinCall "bool.__new__" ⟨[.type "bool", .ref x], []⟩; again (.builtin "bool.__new__" ⟨[.type "bool", .ref x], []⟩)) _ _ s
    refine wpAny_bind (wpAny_of_eq (PySem.F.newCall_bool_1 _) (wpAny_pure ⟨plainId_quiet (by decide +kernel) _, codeAny_builtin PySem.F.entry_bool_new ?_⟩))
    rw [Around.under_plainId (by decide +kernel) _]
    have key : wpAny (model prog w) A.in1.in1 (truthy (.ref x)) (fun b s₁ => Q (.bool b) s₁) E s := truthyO X I hn hs hf (wpAny_mono hcall (fun r s' h => h) fun _ _ e => e)
    unfold Builtin.«bool.__new__»
    have f1 := PySem.F.conv_sub_bool
    repeat (any_goals (first | assumption | (with_reducible refine wpAny_bind (m := truthy (.ref x)) (wpAny_mono key (fun b s' hb => ?_) fun _ _ e => e)) | wp_step))
    all_goals exact ⟨b, rfl, hb⟩
  · rintro obj s₁ ⟨b, rfl, hq⟩
    exact ⟨rfl, PySem.F.args_object_init_2 _ _, object_init_meets PySem.F.called_bool.init.lookup PySem.F.called_bool.made (by decide) prog w A.in1 _ s₁ ⟨rfl, rfl, hq⟩⟩
end
end PvOS
namespace Pv
open PySem PySem.Spec L2
/-- object facts of a class for str, format, truth -/
structure StrC (K : PySem.W.Frag) (C : Addr) : Prop where
  fm : PySem.W.findIn K (.ref C) "__format__" = some (some (.builtin "object.__format__"))
  ob : PySem.W.mroIn K C (.type "object") = some true
  nb : PySem.W.findIn K (.ref C) "__bool__" = some none
/-- a length -/
def wAsL (w : WE) : WE := fun env st Q => w env st fun v st1 => ∃ i : Int, v = .int i ∧ 0 ≤ i ∧ i < 2 ^ 62 ∧ Q (.int i) st1
/-- a length's truth, and whether not -/
def wAsB1 (neg : Bool) (w : WE) : WE := fun env st Q => w env st fun v st1 => ∃ i : Int, v = .int i ∧ 0 ≤ i ∧ i < 2 ^ 62 ∧ Q (.bl (neg ^^ (i != 0))) st1
def ownR (C : Addr) (m : Str) (n : Nat) (S : Spc) (P : (PV → Sto → Prop) → PV → Sto → Prop) : CaP := fun xs st Q => match xs with
  | [x] => ∃ ks ys, x = .ins C ks ys ∧ m ∉ ks ∧ [x].length = n ∧ S [x] st (P Q)
  | _ => False
def pStr : (PV → Sto → Prop) → PV → Sto → Prop := fun Q v st1 => ∃ y : Str, v = .str y ∧ Q (.str y) st1
def pLen : (PV → Sto → Prop) → PV → Sto → Prop := fun Q v st1 => ∃ i : Int, v = .int i ∧ 0 ≤ i ∧ i < 2 ^ 62 ∧ Q (.int i) st1
def pBool (neg : Bool) : (PV → Sto → Prop) → PV → Sto → Prop := fun Q v st1 => ∃ i : Int, v = .int i ∧ 0 ≤ i ∧ i < 2 ^ 62 ∧ Q (.bl (neg ^^ (i != 0))) st1
section
variable {X : Cx} {k n : Nat} {C : Addr} {S : Spc} {e : Expr} {w : WE} {p pos : Pos} {m : Str}
theorem XG.in2 {k : Nat} {X : Cx} (h : XG k X) : Room k X.A.in1.in1 := ⟨h.room.hd, h.room.dp, by have := h.sl; show X.A.units + 1 + 1 + 16 * k + 200 < cLine; omega⟩
theorem XG.in3 {k : Nat} {X : Cx} (h : XG k X) : Room k X.A.in1.in1.in1 := ⟨h.room.hd, h.room.dp, by have := h.sl; show X.A.units + 1 + 1 + 1 + 16 * k + 200 < cLine; omega⟩
theorem own_call (M : MethC X.prog X.w X.K X.mg X.base k C m n S) {A : Around} (hr : Room k A) (hg : A.guards = some []) (hf : A.frames = X.A.frames) {ro fr : List Addr} {H : Hp} {st : Sto} {x : PV} {v : V} {u : Value} {P : (PV → Sto → Prop) → PV → Sto → Prop} {Q : PV → Sto → Prop} {pins : List (Addr × Obj)} {s : Shared} {σ : L2.St}
    (Sx : RepS X.K ro fr H st) (r : RepV X.K ro fr H x v) (h : ∃ ks ys, x = .ins C ks ys ∧ m ∉ ks ∧ [x].length = n ∧ S [x] st (P Q)) (I : Inv X pins σ H s) (ru : RelV v u) :
    ∃ (A1 f : Addr) (ox : Obj) (od : Option Obj), u = .ref A1 ∧ PySem.W.InstAt s.heap A1 ox C od ∧ PySem.W.findIn X.K (.ref C) m = some (some (.ref f)) ∧ PySem.W.isFn X.K (.ref f) = true ∧
      ∀ tk, wpAny (model X.prog X.w) A (call (.ref f) [.ref A1]) (fun z s' => ∃ y H', Inv X pins σ H' s' ∧ RelV y z ∧ ∃ ro' x' st', Ext ro H ro' H' ∧ RepS X.K ro' fr H' st' ∧ RepV X.K ro' fr H' x' y ∧ P Q x' st') X.xe { s with toks := tk } := by
  obtain ⟨f, fd, ps, F, hM, hB⟩ := M.ex
  obtain ⟨ks, ys, rfl, _, hn, hs⟩ := h
  have r1' := r
  cases r with
  | @ins A1 _ _ _ kv1 i1 _ _ =>
    obtain ⟨⟨dx, g1⟩, _⟩ := i1
    cases ru
    obtain ⟨mA, J, _⟩ := ins_get I.hok g1
    obtain ⟨od, J, _⟩ := J.look
    refine ⟨A1, f, _, od, rfl, J, hM.at_, hM.fn, fun tk => ?_⟩
    refine wpAny_mono (run_gA F hr hg hf hB (I.tok tk) (show Vals [V.ref A1] [Value.ref A1] from .cons rfl .nil) ⟨ro, fr, _, st, _, .cons r1' .nil, Sx, hn, hs, fun v H' q => q⟩) (fun v s' hq => ?_) fun _ _ z => z
    obtain ⟨z, H', I', rz, ro', x, st', a, b, c, q⟩ := hq
    exact ⟨z, H', I', rz, ro', x, st', a, b, c, q⟩
theorem dca_strO (M : MethC X.prog X.w X.K X.mg X.base k C "__str__" n S) (G : XG k X) : DCa X (.type "str") (ownR C "__str__" n S pStr) := by
  refine ⟨?_⟩
  intro ro fr H st xs vs Q Sx r h
  match xs, h with
  | [x], h =>
    obtain ⟨v, rfl, r1⟩ := one_rep r
    intro pins s σ us I rv
    obtain ⟨u, rfl, ru⟩ := vals1 rv
    obtain ⟨A1, f, ox, od, rfl, J, h1, h2, key⟩ := own_call M G.in2 (show X.A.guards = some [] from G.gd) rfl Sx r1 h I ru
    refine PvOS.str_KO (f := f) (by have := G.in2.un; omega) I.kIn J h1 h2 ?_
    refine wpAny_mono (key s.toks) (fun z s' hq => ?_) fun _ _ z => z
    obtain ⟨y, H', I', rz, ro', x', st', a, b, c, z1, rfl, q⟩ := hq
    cases c
    obtain ⟨tk, rfl⟩ := rz
    exact ⟨z1, tk, rfl, .str z1, H', I', ⟨tk, rfl⟩, ro', _, st', a, b, .str z1, q⟩
theorem dca_lenO (M : MethC X.prog X.w X.K X.mg X.base k C "__len__" n S) (G : XG k X) : DCa X (.builtin "len") (ownR C "__len__" n S pLen) := by
  refine ⟨?_⟩
  intro ro fr H st xs vs Q Sx r h
  match xs, h with
  | [x], h =>
    obtain ⟨v, rfl, r1⟩ := one_rep r
    intro pins s σ us I rv
    obtain ⟨u, rfl, ru⟩ := vals1 rv
    obtain ⟨A1, f, ox, od, rfl, J, h1, h2, key⟩ := own_call M G.in1 (show X.A.guards = some [] from G.gd) rfl Sx r1 h I ru
    refine PvK.len_KO (f := f) I.kIn J h1 h2 ?_
    refine wpAny_mono (key s.toks) (fun z s' hq => ?_) fun _ _ z => z
    obtain ⟨y, H', I', rz, ro', x', st', a, b, c, i, rfl, i0, i1, q⟩ := hq
    cases c
    obtain ⟨tk, rfl⟩ := rz
    exact ⟨i, tk, rfl, i0, by omega, .int i, H', I'.tok _, ⟨_, rfl⟩, ro', _, st', a, b, .int i, q⟩
theorem dca_boolO (Z : StrC X.K C) (M : MethC X.prog X.w X.K X.mg X.base k C "__len__" n S) (G : XG k X) : DCa X (.type "bool") (ownR C "__len__" n S (pBool false)) := by
  refine ⟨?_⟩
  intro ro fr H st xs vs Q Sx r h
  match xs, h with
  | [x], h =>
    obtain ⟨v, rfl, r1⟩ := one_rep r
    intro pins s σ us I rv
    obtain ⟨u, rfl, ru⟩ := vals1 rv
    obtain ⟨A1, f, ox, od, rfl, J, h1, h2, key⟩ := own_call M G.in3 (show X.A.guards = some [] from G.gd) rfl Sx r1 h I ru
    refine PvOS.bool_KO (f := f) I.kIn J Z.nb h1 h2 ?_
    refine wpAny_mono (key s.toks) (fun z s' hq => ?_) fun _ _ z => z
    obtain ⟨y, H', I', rz, ro', x', st', a, b, c, i, rfl, i0, i1, q⟩ := hq
    cases c
    obtain ⟨tk, rfl⟩ := rz
    rw [Bool.false_xor] at q
    exact ⟨i, tk, rfl, i0, by omega, .bl (i != 0), H', I'.tok _, rfl, ro', _, st', a, b, .bl _, q⟩
theorem d_strO (M : MethC X.prog X.w X.K X.mg X.base k C "__str__" n S) (G : XG k X) (hg : Gl X "str") (hm : X.mg "str" = none) (hv : bootBuiltins "str" = some (.type "str")) (he : DE X e w)
    (hst : starEach [e] X.env = (false, eval e X.env) :: starEach [] X.env := by exact star_cons (by rfl)) (hpl : (backTo pos (starEach [] X.env)).any (·.1) = false := by exact star_plain (by rfl)) :
    DE X (.Call (.Name "str" p) [e] [] pos) (wAsS (wCall n S (wCons (wSelf C "__str__" w) wNil))) := by
  refine ⟨fun ro fr σ H env st Q E St hw => (d_callTy (r := ownR C "__str__" n S pStr) (dca_strO M G) hg hm hv (da_cons he da_nil hst) (by decide +kernel) (by decide +kernel) hst hpl).run ro fr σ H env st Q E St ?_⟩
  exact cast rfl hw
theorem d_lenO (M : MethC X.prog X.w X.K X.mg X.base k C "__len__" n S) (G : XG k X) (hg : Gl X "len") (hm : X.mg "len" = none) (hv : bootBuiltins "len" = some (.builtin "len")) (he : DE X e w)
    (hst : starEach [e] X.env = (false, eval e X.env) :: starEach [] X.env := by exact star_cons (by rfl)) (hpl : (backTo pos (starEach [] X.env)).any (·.1) = false := by exact star_plain (by rfl)) :
    DE X (.Call (.Name "len" p) [e] [] pos) (wAsL (wCall n S (wCons (wSelf C "__len__" w) wNil))) := by
  refine ⟨fun ro fr σ H env st Q E St hw => (d_callB (r := ownR C "__len__" n S pLen) (dca_lenO M G) hg hm hv (da_cons he da_nil hst) (by decide +kernel) (by decide +kernel) hst hpl).run ro fr σ H env st Q E St ?_⟩
  exact cast rfl hw
theorem d_boolO (Z : StrC X.K C) (M : MethC X.prog X.w X.K X.mg X.base k C "__len__" n S) (G : XG k X) (hg : Gl X "bool") (hm : X.mg "bool" = none) (hv : bootBuiltins "bool" = some (.type "bool")) (he : DE X e w)
    (hst : starEach [e] X.env = (false, eval e X.env) :: starEach [] X.env := by exact star_cons (by rfl)) (hpl : (backTo pos (starEach [] X.env)).any (·.1) = false := by exact star_plain (by rfl)) :
    DE X (.Call (.Name "bool" p) [e] [] pos) (wAsB1 false (wCall n S (wCons (wSelf C "__len__" w) wNil))) := by
  refine ⟨fun ro fr σ H env st Q E St hw => (d_callTy (r := ownR C "__len__" n S (pBool false)) (dca_boolO Z M G) hg hm hv (da_cons he da_nil hst) (by decide +kernel) (by decide +kernel) hst hpl).run ro fr σ H env st Q E St ?_⟩
  exact cast rfl hw
/-- not o -/
theorem d_notO (Z : StrC X.K C) (M : MethC X.prog X.w X.K X.mg X.base k C "__len__" n S) (G : XG k X) (he : DE X e w) : DE X (.UnaryOp .Not e pos) (wAsB1 true (wCall n S (wCons (wSelf C "__len__" w) wNil))) := by
  refine ⟨fun ro fr σ H env st Q E St hw => ?_⟩
  have pe : PE X (.UnaryOp .Not e pos) (fun σ H Q => tW X e σ H fun v H1 => ∀ pins s σ u, Inv X pins σ H1 s → RelV v u → wpAny (model X.prog X.w) X.A (truthy u) (fun c s' => ∃ H2, Inv X pins σ H2 s' ∧ Q (.bl (!c)) H2) X.xe s) := by
    refine ⟨fun pins s σ H Q I h => ?_⟩
    refine PyProof.Rows.UnaryOp_ (thn ((pe_W X e).run pins s σ H _ I h) fun v s1 ⟨x, H1, I1, r1, q1⟩ => ?_)
    exact PyProof.Rows.not_of (wpAny_mono (q1 pins s1 σ v I1 r1) (fun c s2 ⟨H2, I2, q2⟩ => ⟨.bl (!c), H2, I2, rfl, q2⟩) fun _ _ z => z)
  refine toW pe ?_
  refine tW.mono (he _ _ _ _ _ _ _ E St hw) fun v H1 ⟨ro1, x, st1, e1, S1, r1, q⟩ => ?_
  intro pins s σ u I ru
  obtain ⟨ks, ys, hx, hm, hn, hs⟩ := (show ∃ ks ys, x = .ins C ks ys ∧ ("__len__" : Str) ∉ ks ∧ [x].length = n ∧ S [x] st1 (pBool true Q) from q)
  obtain ⟨A1, f, ox, od, rfl, J, h1, h2, key⟩ := own_call (P := pBool true) M G.in1 (show X.A.guards = some [] from G.gd) rfl S1 r1 ⟨ks, ys, hx, hm, hn, hs⟩ I ru
  refine PvOS.truthyO (f := f) I.kIn J Z.nb h1 h2 ?_
  refine wpAny_mono (key s.toks) (fun z s' hq => ?_) fun _ _ z => z
  obtain ⟨y, H', I', rz, ro', x', st', a, b, c, i, rfl, i0, i1, q⟩ := hq
  cases c
  obtain ⟨tk, rfl⟩ := rz
  rw [Bool.true_xor] at q
  exact ⟨i, tk, rfl, i0, by omega, H', I'.tok _, ro', _, st', e1.trans a, b, .bl _, q⟩
/-- {o} -/
theorem d_fmtO (Z : StrC X.K C) (M : MethC X.prog X.w X.K X.mg X.base k C "__str__" n S) (G : XG k X) (he : DE X e w) : DE X (.FormattedValue e (-1) none pos) (wFmt (wCall n S (wCons (wSelf C "__str__" w) wNil))) := by
  refine ⟨fun ro fr σ H env st Q E St hw => ?_⟩
  have pe : PE X (.FormattedValue e (-1) none pos) (fun σ H Q => tW X e σ H fun v H1 => ∀ pins s σ u, Inv X pins σ H1 s → RelV v u → wpAny (model X.prog X.w) X.A (formatField u Str.empty) (EP X pins σ Q) X.xe s) := by
    refine ⟨fun pins s σ H Q I h => ?_⟩
    refine wpAny_FormattedValue_plain (thn ((pe_W X e).run pins s σ H _ I h) fun v s1 ⟨x, H1, I1, r1, q1⟩ => ?_)
    exact q1 pins s1 σ v I1 r1
  refine toW pe ?_
  refine tW.mono (he _ _ _ _ _ _ _ E St hw) fun v H1 ⟨ro1, x, st1, e1, S1, r1, q⟩ => ?_
  intro pins s σ u I ru
  obtain ⟨ks, ys, hx, hm, hn, hs⟩ := (show ∃ ks ys, x = .ins C ks ys ∧ ("__str__" : Str) ∉ ks ∧ [x].length = n ∧ S [x] st1 (fun v st2 => ∃ y : Str, v = .str y ∧ y.length ≤ sizeLine ∧ Q (.str y) st2) from q)
  obtain ⟨A1, f, ox, od, rfl, J, h1, h2, key⟩ := own_call (P := fun Q v st2 => ∃ y : Str, v = .str y ∧ y.length ≤ sizeLine ∧ Q (.str y) st2) M G.in1 (show X.A.guards = some [] from G.gd) rfl S1 r1 ⟨ks, ys, hx, hm, hn, hs⟩ I ru
  refine PySem.W.kfo_fieldS (f := f) (by have := G.in1.un; omega) I.kIn J Z.fm Z.ob h1 h2 ?_
  refine wpAny_mono (key (s.toks + 1)) (fun z s' hq => ?_) fun _ _ z => z
  obtain ⟨y, H', I', rz, ro', x', st', a, b, c, z1, rfl, hl, q⟩ := hq
  cases c
  obtain ⟨tk, rfl⟩ := rz
  exact ⟨.str z1, H', I', ⟨tk, rfl⟩, ro', _, st', e1.trans a, b, .str z1, q⟩
end
end Pv
namespace PvFR
open PySem PySem.Spec L2 PyProof.Rows PySem.W PySem.Builtin PySem.Builtin.List
inductive ReprAllD (prog : Program) (w : World) (as : List Addr) (h₀ : Heap) (d e : Nat) : List Value → List Str → Prop
  | nil : ReprAllD prog w as h₀ d e [] []
  | cons {x : Value} {t : Str} {l : List Value} {ts : List Str} : ReprD prog w as h₀ d e x t → ReprAllD prog w as h₀ d e l ts → ReprAllD prog w as h₀ d e (x :: l) (t :: ts)
theorem ReprAllD.length_eq {prog : Program} {w : World} {as : List Addr} {h₀ : Heap} {d e : Nat} : ∀ {l : List Value} {ts : List Str}, ReprAllD prog w as h₀ d e l ts → ts.length = l.length
  | _, _, .nil => rfl
  | _, _, .cons _ h => by simp [h.length_eq]
theorem ReprD.more {prog : Program} {w : World} {as as' : List Addr} {h₀ : Heap} {d e d' e' : Nat} {x : Value} {t : Str} (h : ReprD prog w as h₀ d e x t) (hsub : ∀ b ∈ as, b ∈ as') (hd : d ≤ d') (he : e ≤ e') : ReprD prog w as' h₀ d' e' x t :=
  fun base hz A g E s Q hg hcl hu hk hQ => h base hz A g E s Q hg (fun b hb => hcl b (hsub b hb)) ⟨by omega, by omega⟩ hk hQ
theorem depth_tup (A : Around) (y : Args) : (A.under (.builtin "tuple.__repr__" y)).depth = A.depth + 1 := by
  have hg : (Code.builtin "tuple.__repr__" y).isGuard = true := isGuard_tuple_repr y
  show A.depth + (Code.builtin "tuple.__repr__" y).weight = _
  unfold Code.weight
  rw [hg]
  have h1 : (Code.builtin "tuple.__repr__" y).frames = 0 := by first | rfl | simp [Code.frames, Code.isFrame]
  have h2 : (Code.builtin "tuple.__repr__" y).isCreation = false := by first | rfl | (simp [Code.isCreation]; done) | decide +kernel
  have h3 : (Code.builtin "tuple.__repr__" y).isCaller = false := by first | rfl | (simp [Code.isCaller]; done) | decide +kernel
  rw [h1, h2, h3]
  rfl
section
variable {prog : Program} {w : World} {A : Around} {E : Value → Shared → Prop} {as : List Addr} {h₀ : Heap} {d e : Nat} {g : List Code}
theorem tupFoldD (hg : A.guards = some g) (hcl : ∀ b ∈ as, Clear g b) (hu : A.units + d < cLine) (hd : A.depth + e < recursionLimit) : ∀ (l : List Value) (ts : List Str) (acc : Array Str) (n : Nat) (s : Shared) (Q : (Array Str × Nat) → Shared → Prop), ReprAllD prog w as h₀ d e l ts → n + piled ts ≤ sizeLine →
    (∀ b o, h₀.get? b = some o → s.heap.get? b = some o) → (∀ h' tk, (∀ b o, s.heap.get? b = some o → h'.get? b = some o) → Q ⟨acc ++ ts.toArray, n + piled ts⟩ { s with heap := h', toks := tk }) →
    wpAny (model prog w) A (forIn l (⟨acc, n⟩ : (Array Str × Nat)) tupBody) Q E s := by
  intro l
  induction l with
  | nil =>
    intro ts acc n s Q hT _ _ h
    cases hT
    have h0 := h s.heap s.toks fun _ _ e => e
    simp only [List.forIn_nil]
    exact wpAny_pure (by simpa [piled] using h0)
  | cons x l ih =>
    intro ts acc n s Q hT hn hk0 h
    cases hT with
    | cons hx hl =>
      rename_i t ts'
      rw [piled_cons] at hn
      rw [List.forIn_cons]
      refine wpAny_bind (wpAny_bind (hx (n + 1) (by omega) _ _ _ _ _ hg hcl ⟨hu, hd⟩ hk0 fun h' tk hkp => wpAny_pure ?_))
      refine ih ts' (acc.push t) (n + (t.length + 2)) _ Q hl (by omega) (fun b o e => hkp _ _ (hk0 _ _ e)) fun h'' tk' hk2 => ?_
      have h1 := h h'' tk' fun b o e => hk2 _ _ (hkp _ _ e)
      have e : n + piled (t :: ts') = n + (t.length + 2) + piled ts' := by rw [piled_cons]; omega
      rw [e] at h1
      simpa using h1
end
section
variable {prog : Program} {w : World}
theorem reprD_list {as : List Addr} {h₀ : Heap} {d e : Nat} {a : Addr} {oa : Obj} {y : Value} {l : List Value} {na : Nat} {zs : List Str} (ha : h₀.get? a = some oa) (hc : oa.cls = .type "list") (hda : oa.data = .seq (y :: l).toArray na) (hna : a ∉ as) (hlen : zs.length = (y :: l).toArray.size)
    (hT : ∀ (j : Nat) (v : Value), (y :: l).toArray[j]? = some v → ∃ z, zs[j]? = some z ∧ ReprD prog w as h₀ d e v z) : ReprD prog w (a :: as) h₀ (d + 5) (e + 1) (.ref a) (listText zs) := by
  intro base hb A g E s Q hg hcl hu hk0 hQ
  refine wpAny_pyReprUnder_ref (by omega) (wpAny_pyReprObjUnder_twin (twin := "list.__repr__.under") ⟨oa, hk0 _ _ ha, hc⟩ F.slot_list_repr.toG rfl (by omega) ?_)
  refine call_twin_plain F.plain_list_repr_under F.entry_list_repr_under F.check_list_repr_under ⟨oa, hk0 _ _ ha, hc⟩ F.slot_list_repr.toG (F.args_list_repr_1 _) ?_
  exact reprAtD (R := callEnd _ E) ha hda hna hlen hT hg hcl (by omega) (by omega) hk0 (fun h' u tk hk => ⟨⟨_, _, rfl⟩, _, _, rfl, hQ h' tk hk⟩) hb
theorem wpOwn_tupD {as : List Addr} {h₀ : Heap} {d e : Nat} {a : Addr} {o : Obj} {items : Array Value} {n : Nat} {ts : List Str}
    (ha : h₀.get? a = some o) (hc : o.cls = .type "tuple") (hd : o.data = .seq items n) (hna : a ∉ as) (hT : ReprAllD prog w as h₀ d e items.toList ts)
    {A : Around} {g : List Code} {s : Shared} {R : Result → Shared → Prop} {base : Nat} {rest : List Value}
    (hg : A.guards = some g) (hcl : ∀ b ∈ a :: as, Clear g b) (hu : A.units + (d + 1) < cLine) (hdp : A.depth + (e + 1) < recursionLimit) (hk0 : ∀ b o, h₀.get? b = some o → s.heap.get? b = some o)
    (hR : ∀ h' u tk, (∀ b o, s.heap.get? b = some o → h'.get? b = some o) → R (.ok (.ret (.str (tupleText ts) u))) { s with heap := h', toks := tk })
    (hsz : base + (tupleText ts).length ≤ sizeLine) :
    wpOwn (model prog w) A (.builtin "tuple.__repr__" ⟨.ref a :: rest, []⟩) (Builtin.tupleReprAt base ⟨[.ref a], []⟩) (fun fin s' => match fin with | .done f => R (.ok f) s' | .again c' => c'.quiet = true ∧ codeAny (model prog w) A c' R s') (fun e s' => R (.error e) s') s := by
  have hca : Clear g a := hcl a (.head _)
  have hlen : ts.length = items.size := by simpa using hT.length_eq
  have hp := piled_le_tupleText ts
  have hsz0 : (tupleText ts).length ≤ sizeLine := by omega
  rw [tuple_repr_tree, tupleReprUnderWay_eq]
  refine wpOwn_bind (wpOwn_stackTailAny hg (tupGuardF_off _) (tupGuardF_pos _) ?_)
  have hn : (g.any fun c => tupGuardF (.ref a) (c, default)) = false := by
    rw [List.any_eq_false]
    intro c hcm
    rw [tupGuardF_of_clear hca c hcm]
    exact Bool.false_ne_true
  rw [hn]
  refine wpOwn_of_wpAny ?_
  show wpAny _ _ (tupleReprRest base (.ref a)) _ _ s
  unfold tupleReprRest Builtin.Tuple.tupleItemsOf
  refine wpAny_bind (wpAny_bind (wpAny_seqItems (hk0 _ _ ha) hd (wpAny_pure ?_)))
  rw [← Array.forIn_toList]
  refine wpAny_bind (tupFoldD (guards_under_guard (isGuard_tuple_repr _) hg) (fun b hb => (hcl b (.tail _ hb)).cons (a := a) fun e => hna (e ▸ hb)) (by rw [units_under_tuple_repr]; omega) (by rw [depth_tup]; omega) _ ts _ _ _ _ hT (by omega) hk0 fun h' tk hkp => ?_)
  refine wpAny_bind (wpAny_mkStr (wpAny_pure ?_) (by simpa [tupleText, hlen] using hsz0))
  have h1 := hR h' tk (tk + 1) hkp
  simpa [tupleText, hlen] using h1
theorem call_repr_tupD {as : List Addr} {h₀ : Heap} {d e : Nat} {a : Addr} {o : Obj} {items : Array Value} {n : Nat} {ts : List Str}
    (ha : h₀.get? a = some o) (hc : o.cls = .type "tuple") (hd : o.data = .seq items n) (hna : a ∉ as) (hT : ReprAllD prog w as h₀ d e items.toList ts)
    {A : Around} {E : Value → Shared → Prop} {s : Shared} {Q : Value → Shared → Prop}
    (hg : A.guards = some []) (hu : A.units + (d + 4) < cLine) (hdp : A.depth + (e + 1) < recursionLimit) (hk0 : ∀ b o, h₀.get? b = some o → s.heap.get? b = some o)
    (hQ : ∀ h' u tk, (∀ b o, s.heap.get? b = some o → h'.get? b = some o) → Q (.str (tupleText ts) u) { s with heap := h', toks := tk }) (hsz : (tupleText ts).length ≤ sizeLine) :
    wpAny (model prog w) A (call (.builtin "repr") [.ref a]) Q E s := by
  have ty : s.TypeIs (.ref a) "tuple" := ⟨o, hk0 _ _ ha, hc⟩
  refine call_repr_slot (by show A.units + 1 < cLine; omega) ty F.slot_tuple_repr ?_
  refine wpAny_call (codeAny_call_builtin_own (Code.quiet_builtin _ (by decide +kernel)) F.entry_tuple_repr (F.slot_tuple_repr.check _ _ _ _ _ _ _ _ ty (F.args_tuple_repr_1 _) ?_))
  exact wpOwn_tupD (A := A.in1) (base := 0) (R := callEnd _ E) ha hc hd hna hT hg (fun b _ => Clear.nil b) (by show A.units + 1 + (d + 1) < cLine; omega) (by show A.depth + (e + 1) < _; omega) hk0 (fun h' u tk hk => ⟨_, _, rfl, hQ h' u tk hk⟩) (by omega)
end
end PvFR
namespace Pv
open PySem PySem.Spec L2 PvFR PyProof.Rows PySem.W
/-- repr of (o, [o]) -/
def reprTLR (C : Addr) (g1 g2 t1 t2 t3 : Str) : CaP := fun xs st Q => ∃ o z, xs = [.tup [o, .lst [o]]] ∧ ShO C g1 g2 t1 t2 t3 st o z ∧ (tupleText [z, listText [z]]).length ≤ sizeLine ∧ Q (.str (tupleText [z, listText [z]])) st
section
variable {X : Cx} {k : Nat} {C : Addr} {g1 g2 t1 t2 t3 : Str} {e : Expr} {w : WE} {pos : Pos}
theorem notData {h : Heap} {bs : List Addr} {d : Nat} {a x : Addr} {o ox : Obj} {its : List Value} {n : Nat} (hb : ReadAtMost h d bs) (ho : h.get? a = some o) (hd : o.data = .seq (.ref x :: its).toArray n) (hx : h.get? x = some ox) (hc : ox.cls = .ref C) : a ∉ bs := fun m => by
  obtain ⟨d, as, rd, _⟩ := hb a m
  cases rd with
  | list h1 h2 h3 h4 =>
    rw [ho] at h1; cases h1
    rw [hd] at h3; cases h3
    cases h4 with
    | cons rx _ =>
      cases rx with
      | list q1 q2 _ _ => rw [hx] at q1; cases q1; rw [hc] at q2; cases q2
      | tuple q1 q2 _ _ => rw [hx] at q1; cases q1; rw [hc] at q2; cases q2
      | dict q1 q2 _ _ _ => rw [hx] at q1; cases q1; rw [hc] at q2; cases q2
  | tuple h1 h2 h3 h4 =>
    rw [ho] at h1; cases h1
    rw [hd] at h3; cases h3
    cases h4 with
    | cons rx _ =>
      cases rx with
      | list q1 q2 _ _ => rw [hx] at q1; cases q1; rw [hc] at q2; cases q2
      | tuple q1 q2 _ _ => rw [hx] at q1; cases q1; rw [hc] at q2; cases q2
      | dict q1 q2 _ _ _ => rw [hx] at q1; cases q1; rw [hc] at q2; cases q2
  | dict h1 h2 h3 h4 h5 =>
    rw [ho] at h1; cases h1
    first
      | (rw [hd] at h3; cases h3; done)
      | (rw [hd] at h2; cases h2; done)
      | trace_state
theorem dca_reprTL (O : OwnR X.K C g1 g2 t1 t2 t3) (hne : g1 ≠ g2) (G : XG k X) : DCa X (.builtin "repr") (reprTLR C g1 g2 t1 t2 t3) := by
  refine ⟨?_⟩
  intro ro fr H st xs vs Q Sx r h
  obtain ⟨ob, z, rfl, hs, hl, q⟩ := h
  obtain ⟨v, rfl, r1⟩ := one_rep r
  cases r1 with
  | @tup T _ us ht rs =>
  cases rs with
  | @cons _ _ v1 _ ra rs =>
  cases rs with
  | @cons _ _ v2 _ rb rs =>
  cases rs
  cases rb with
  | @lst L _ ws hlL rl =>
  cases rl with
  | @cons _ _ v3 _ rc rl =>
  cases rl
  intro pins s σ us I rv
  obtain ⟨u, rfl, ru⟩ := vals1 rv
  cases ru
  obtain ⟨its, rvT, ⟨oT, eT, cT, nT, dT⟩, hzT⟩ := I.tuple ht.sq
  have zl : z.length ≤ (tupleText [z, listText [z]]).length := tupleText_mem_le List.mem_cons_self
  have zl2 : (listText [z]).length ≤ (tupleText [z, listText [z]]).length := tupleText_mem_le (List.mem_cons_of_mem _ List.mem_cons_self)
  cases rvT with
  | @cons _ u1 _ _ ru1 rvT =>
  cases rvT with
  | @cons _ u2 _ _ ru2 rvT =>
  cases rvT
  cases ru2
  obtain ⟨jts, rvL, plL, hzL⟩ := I.list hlL.sq
  obtain ⟨oL, eL, cL, nL, dL⟩ := plL.isList
  cases rvL with
  | @cons _ u3 _ _ ru3 rvL =>
  cases rvL
  obtain ⟨b1, h1, k1, x1, o1, e1, f1, c1⟩ := sho_reprs O hne I Sx hs ra ru1 (Nat.le_trans zl hl)
  obtain ⟨b2, h2, k2, x2, o2, e2, f2, c2⟩ := sho_reprs O hne I Sx hs rc ru3 (Nat.le_trans zl hl)
  subst e1
  subst e2
  have nL2 : L ∉ b2 := notData h2 eL dL f2 c2
  have nT1 : T ∉ b1 := notData h1 eT dT f1 c1
  have nT2 : T ∉ b2 := notData h2 eT dT f1 c1
  have nTL : T ≠ L := fun e => by
    subst e
    have q2 := Option.some.inj (eT.symm.trans eL)
    rw [← q2, cT] at cL
    exact absurd (Value.type.inj cL) (by decide)
  have kL := reprD_list (prog := X.prog) (w := X.w) (zs := [z]) eL cL dL nL2 (by simp) (fun j v hj => by
    cases j with
    | zero =>
      simp only [List.getElem?_toArray, List.getElem?_cons_zero, Option.some.injEq] at hj
      subst hj
      exact ⟨z, rfl, k2⟩
    | succ j => simp at hj)
  have un := G.room.un
  have dp := G.room.dp
  have kT : ReprAllD X.prog X.w (b1 ++ L :: b2) s.heap 40 1 [.ref x1, .ref L] [z, listText [z]] := .cons (k1.more (fun b m => List.mem_append_left _ m) (by omega) (by omega)) (.cons (kL.more (fun b m => List.mem_append_right _ m) (by omega) (by omega)) .nil)
  refine call_repr_tupD eT cT dT (fun m => ?_) kT G.gd (by omega) (by omega) (fun _ _ e => e) (fun h' u tk hk => ?_) hl
  · rcases List.mem_append.mp m with m | m
    · exact nT1 m
    · rcases List.mem_cons.mp m with m | m
      · exact nTL m
      · exact nT2 m
  · exact ⟨.str _, H, I.kept hk, ⟨u, rfl⟩, ro, _, st, .refl, Sx, .str _, q⟩
theorem d_fs0 (h : DE X e w) : DE X (.JoinedStr [e] pos) w := ⟨fun ro fr σ H env st Q E S hw => toW (pe_fs1 (pe_W X e)) (h _ _ _ _ _ _ _ E S hw)⟩
end
end Pv
namespace Pv
open PySem PySem.Spec L2 PyProof.Rows
end Pv
namespace K20
open PySem PySem.Spec L2 Pv
def top (i : Nat) : Stmt := PySem.Challenge.pw_endpapers_k20_forms_shown.main.body.getD i (.Pass ⟨0, 0, 0, 0⟩)
structure Txt (mg : Str → Option Value) : Prop where
  m_all : mg "all" = none
  m_bool : mg "bool" = none
  m_int : mg "int" = none
  m_isinstance : mg "isinstance" = none
  m_len : mg "len" = none
  m_max : mg "max" = none
  m_min : mg "min" = none
  m_range : mg "range" = none
  m_repr : mg "repr" = none
  m_sorted : mg "sorted" = none
  m_str : mg "str" = none
  m_sum : mg "sum" = none
  m_tuple : mg "tuple" = none
  m_zip : mg "zip" = none
  k_GREAT : IsStr mg "GREAT" "ABCDEFGHIJKLMNOPQRSTUVWXYZ"
  k_LONGEST : IsInt mg "LONGEST" 6
  k_SMALL : IsStr mg "SMALL" "abcdefghijklmnopqrstuvwxyz"
  k_WIDEST : IsInt mg "WIDEST" 3
/-- the classes, as the top has made them -/
structure CTs (K : PySem.W.Frag) (mg : Str → Option Value) (fa : Nat → Addr) : Prop where
  cl_Form : Cls K (fa 0)
  mg_Form : mg "Form" = some (.ref (fa 0))
  ic_Form : C8.InsC K (fa 0)
  st_Form : StrC K (fa 0)
  rp_Form : OwnR K (fa 0) "base" "parts" "Form(" ", " ")"
  na_Form_base : NoAttr K (fa 0) "base"
  na_Form_parts : NoAttr K (fa 0) "parts"
theorem nb_thing : (("thing" : Str) == ("__debug__" : Str)) = false := by decide +kernel
theorem nc_thing : (("thing" : Str) == ("__classdict__" : Str)) = false := by decide +kernel
theorem it_int : "int" ∈ ["bool", "int", "str", "tuple", "list", "dict"] := by decide +kernel
theorem bt_int : bootBuiltins "int" = some (.type "int") := by decide +kernel
theorem nn_int : ("int" : Str) ≠ "__name__" := by decide +kernel
theorem nb_int : (("int" : Str) == ("__debug__" : Str)) = false := by decide +kernel
theorem it_bool : "bool" ∈ ["bool", "int", "str", "tuple", "list", "dict"] := by decide +kernel
theorem bt_bool : bootBuiltins "bool" = some (.type "bool") := by decide +kernel
theorem nn_bool : ("bool" : Str) ≠ "__name__" := by decide +kernel
theorem nb_bool : (("bool" : Str) == ("__debug__" : Str)) = false := by decide +kernel
theorem it_str : "str" ∈ ["bool", "int", "str", "tuple", "list", "dict"] := by decide +kernel
theorem bt_str : bootBuiltins "str" = some (.type "str") := by decide +kernel
theorem nn_str : ("str" : Str) ≠ "__name__" := by decide +kernel
theorem nb_str : (("str" : Str) == ("__debug__" : Str)) = false := by decide +kernel
theorem bt_len : bootBuiltins "len" = some (.builtin "len") := by decide +kernel
theorem nn_len : ("len" : Str) ≠ "__name__" := by decide +kernel
theorem nb_len : (("len" : Str) == ("__debug__" : Str)) = false := by decide +kernel
theorem nb_LONGEST : (("LONGEST" : Str) == ("__debug__" : Str)) = false := by decide +kernel
theorem nb_first : (("first" : Str) == ("__debug__" : Str)) = false := by decide +kernel
theorem nc_first : (("first" : Str) == ("__classdict__" : Str)) = false := by decide +kernel
theorem nb_ahead : (("ahead" : Str) == ("__debug__" : Str)) = false := by decide +kernel
theorem nc_ahead : (("ahead" : Str) == ("__classdict__" : Str)) = false := by decide +kernel
theorem nb_rest : (("rest" : Str) == ("__debug__" : Str)) = false := by decide +kernel
theorem nc_rest : (("rest" : Str) == ("__classdict__" : Str)) = false := by decide +kernel
theorem nb_sign : (("sign" : Str) == ("__debug__" : Str)) = false := by decide +kernel
theorem nc_sign : (("sign" : Str) == ("__classdict__" : Str)) = false := by decide +kernel
theorem nb_SMALL : (("SMALL" : Str) == ("__debug__" : Str)) = false := by decide +kernel
theorem bt_all : bootBuiltins "all" = some (.builtin "all") := by decide +kernel
theorem nn_all : ("all" : Str) ≠ "__name__" := by decide +kernel
theorem nb_all : (("all" : Str) == ("__debug__" : Str)) = false := by decide +kernel
theorem nb_GREAT : (("GREAT" : Str) == ("__debug__" : Str)) = false := by decide +kernel
theorem nb_is_spelt : (("is_spelt" : Str) == ("__debug__" : Str)) = false := by decide +kernel
theorem it_tuple : "tuple" ∈ ["bool", "int", "str", "tuple", "list", "dict"] := by decide +kernel
theorem bt_tuple : bootBuiltins "tuple" = some (.type "tuple") := by decide +kernel
theorem nn_tuple : ("tuple" : Str) ≠ "__name__" := by decide +kernel
theorem nb_tuple : (("tuple" : Str) == ("__debug__" : Str)) = false := by decide +kernel
theorem nb_WIDEST : (("WIDEST" : Str) == ("__debug__" : Str)) = false := by decide +kernel
theorem nb_one : (("one" : Str) == ("__debug__" : Str)) = false := by decide +kernel
theorem nc_one : (("one" : Str) == ("__classdict__" : Str)) = false := by decide +kernel
theorem nb_is_whole : (("is_whole" : Str) == ("__debug__" : Str)) = false := by decide +kernel
theorem nb_row : (("row" : Str) == ("__debug__" : Str)) = false := by decide +kernel
theorem nc_row : (("row" : Str) == ("__classdict__" : Str)) = false := by decide +kernel
theorem nb_is_row : (("is_row" : Str) == ("__debug__" : Str)) = false := by decide +kernel
theorem nb_width : (("width" : Str) == ("__debug__" : Str)) = false := by decide +kernel
theorem nc_width : (("width" : Str) == ("__classdict__" : Str)) = false := by decide +kernel
theorem nb_is_unknown : (("is_unknown" : Str) == ("__debug__" : Str)) = false := by decide +kernel
theorem nb_is_square : (("is_square" : Str) == ("__debug__" : Str)) = false := by decide +kernel
theorem nb_nought : (("nought" : Str) == ("__debug__" : Str)) = false := by decide +kernel
theorem nb_other : (("other" : Str) == ("__debug__" : Str)) = false := by decide +kernel
theorem nc_other : (("other" : Str) == ("__classdict__" : Str)) = false := by decide +kernel
theorem nb_parts : (("parts" : Str) == ("__debug__" : Str)) = false := by decide +kernel
theorem nc_parts : (("parts" : Str) == ("__classdict__" : Str)) = false := by decide +kernel
theorem nb_base : (("base" : Str) == ("__debug__" : Str)) = false := by decide +kernel
theorem nc_base : (("base" : Str) == ("__classdict__" : Str)) = false := by decide +kernel
theorem nb_are_parts : (("are_parts" : Str) == ("__debug__" : Str)) = false := by decide +kernel
theorem nb_self : (("self" : Str) == ("__debug__" : Str)) = false := by decide +kernel
theorem nc_self : (("self" : Str) == ("__classdict__" : Str)) = false := by decide +kernel
theorem nb_shown_row : (("shown_row" : Str) == ("__debug__" : Str)) = false := by decide +kernel
theorem nb_square : (("square" : Str) == ("__debug__" : Str)) = false := by decide +kernel
theorem nc_square : (("square" : Str) == ("__classdict__" : Str)) = false := by decide +kernel
theorem nb_shown_square : (("shown_square" : Str) == ("__debug__" : Str)) = false := by decide +kernel
theorem nb_unknown : (("unknown" : Str) == ("__debug__" : Str)) = false := by decide +kernel
theorem nc_unknown : (("unknown" : Str) == ("__classdict__" : Str)) = false := by decide +kernel
theorem nb_shown_numbers : (("shown_numbers" : Str) == ("__debug__" : Str)) = false := by decide +kernel
theorem nb__law_script : (("_law_script" : Str) == ("__debug__" : Str)) = false := by decide +kernel
theorem nc__law_script : (("_law_script" : Str) == ("__classdict__" : Str)) = false := by decide +kernel
theorem nb__law_k : (("_law_k" : Str) == ("__debug__" : Str)) = false := by decide +kernel
theorem nc__law_k : (("_law_k" : Str) == ("__classdict__" : Str)) = false := by decide +kernel
theorem nb__law_cell : (("_law_cell" : Str) == ("__debug__" : Str)) = false := by decide +kernel
theorem nc__law_cell : (("_law_cell" : Str) == ("__classdict__" : Str)) = false := by decide +kernel
theorem nb__law_deck_here : (("_law_deck_here" : Str) == ("__debug__" : Str)) = false := by decide +kernel
theorem nc__law_deck_here : (("_law_deck_here" : Str) == ("__classdict__" : Str)) = false := by decide +kernel
theorem nb__law_many : (("_law_many" : Str) == ("__debug__" : Str)) = false := by decide +kernel
theorem nc__law_many : (("_law_many" : Str) == ("__classdict__" : Str)) = false := by decide +kernel
theorem nb__law_digit : (("_law_digit" : Str) == ("__debug__" : Str)) = false := by decide +kernel
theorem nc__law_digit : (("_law_digit" : Str) == ("__classdict__" : Str)) = false := by decide +kernel
theorem nb__law_far : (("_law_far" : Str) == ("__debug__" : Str)) = false := by decide +kernel
theorem nc__law_far : (("_law_far" : Str) == ("__classdict__" : Str)) = false := by decide +kernel
theorem nb__law_some : (("_law_some" : Str) == ("__debug__" : Str)) = false := by decide +kernel
theorem nc__law_some : (("_law_some" : Str) == ("__classdict__" : Str)) = false := by decide +kernel
theorem nb__law_draw : (("_law_draw" : Str) == ("__debug__" : Str)) = false := by decide +kernel
theorem nb__law_size : (("_law_size" : Str) == ("__debug__" : Str)) = false := by decide +kernel
theorem nc__law_size : (("_law_size" : Str) == ("__classdict__" : Str)) = false := by decide +kernel
theorem nb__law_number : (("_law_number" : Str) == ("__debug__" : Str)) = false := by decide +kernel
theorem nb__law_way : (("_law_way" : Str) == ("__debug__" : Str)) = false := by decide +kernel
theorem nc__law_way : (("_law_way" : Str) == ("__classdict__" : Str)) = false := by decide +kernel
theorem nb__law_at : (("_law_at" : Str) == ("__debug__" : Str)) = false := by decide +kernel
theorem nc__law_at : (("_law_at" : Str) == ("__classdict__" : Str)) = false := by decide +kernel
theorem nb__law_row : (("_law_row" : Str) == ("__debug__" : Str)) = false := by decide +kernel
theorem nb__law_letters : (("_law_letters" : Str) == ("__debug__" : Str)) = false := by decide +kernel
theorem nc__law_letters : (("_law_letters" : Str) == ("__classdict__" : Str)) = false := by decide +kernel
theorem nb__law_first : (("_law_first" : Str) == ("__debug__" : Str)) = false := by decide +kernel
theorem nc__law_first : (("_law_first" : Str) == ("__classdict__" : Str)) = false := by decide +kernel
theorem nb__law_word : (("_law_word" : Str) == ("__debug__" : Str)) = false := by decide +kernel
theorem nc__law_word : (("_law_word" : Str) == ("__classdict__" : Str)) = false := by decide +kernel
theorem nb__law_sign : (("_law_sign" : Str) == ("__debug__" : Str)) = false := by decide +kernel
theorem nc__law_sign : (("_law_sign" : Str) == ("__classdict__" : Str)) = false := by decide +kernel
theorem nb__law_found : (("_law_found" : Str) == ("__debug__" : Str)) = false := by decide +kernel
theorem nc__law_found : (("_law_found" : Str) == ("__classdict__" : Str)) = false := by decide +kernel
theorem nb__law_words : (("_law_words" : Str) == ("__debug__" : Str)) = false := by decide +kernel
theorem nb__law_row_here : (("_law_row_here" : Str) == ("__debug__" : Str)) = false := by decide +kernel
theorem nc__law_row_here : (("_law_row_here" : Str) == ("__classdict__" : Str)) = false := by decide +kernel
theorem nb__law_one : (("_law_one" : Str) == ("__debug__" : Str)) = false := by decide +kernel
theorem nc__law_one : (("_law_one" : Str) == ("__classdict__" : Str)) = false := by decide +kernel
theorem nb__law_line : (("_law_line" : Str) == ("__debug__" : Str)) = false := by decide +kernel
theorem nb__law_square_here : (("_law_square_here" : Str) == ("__debug__" : Str)) = false := by decide +kernel
theorem nc__law_square_here : (("_law_square_here" : Str) == ("__classdict__" : Str)) = false := by decide +kernel
theorem nb__law_line_here : (("_law_line_here" : Str) == ("__debug__" : Str)) = false := by decide +kernel
theorem nc__law_line_here : (("_law_line_here" : Str) == ("__classdict__" : Str)) = false := by decide +kernel
theorem nb__law_unknown : (("_law_unknown" : Str) == ("__debug__" : Str)) = false := by decide +kernel
theorem nc__law_unknown : (("_law_unknown" : Str) == ("__classdict__" : Str)) = false := by decide +kernel
theorem nb__law_words_here : (("_law_words_here" : Str) == ("__debug__" : Str)) = false := by decide +kernel
theorem nc__law_words_here : (("_law_words_here" : Str) == ("__classdict__" : Str)) = false := by decide +kernel
theorem nb__law_tuple : (("_law_tuple" : Str) == ("__debug__" : Str)) = false := by decide +kernel
theorem nb__law_parts : (("_law_parts" : Str) == ("__debug__" : Str)) = false := by decide +kernel
theorem nc__law_parts : (("_law_parts" : Str) == ("__classdict__" : Str)) = false := by decide +kernel
theorem nb__law_lines : (("_law_lines" : Str) == ("__debug__" : Str)) = false := by decide +kernel
theorem nc__law_lines : (("_law_lines" : Str) == ("__classdict__" : Str)) = false := by decide +kernel
theorem nb__law_unknowns : (("_law_unknowns" : Str) == ("__debug__" : Str)) = false := by decide +kernel
theorem bt_sorted : bootBuiltins "sorted" = some (.builtin "sorted") := by decide +kernel
theorem nn_sorted : ("sorted" : Str) ≠ "__name__" := by decide +kernel
theorem nb_sorted : (("sorted" : Str) == ("__debug__" : Str)) = false := by decide +kernel
theorem nb__law_square : (("_law_square" : Str) == ("__debug__" : Str)) = false := by decide +kernel
theorem bt_sum : bootBuiltins "sum" = some (.builtin "sum") := by decide +kernel
theorem nn_sum : ("sum" : Str) ≠ "__name__" := by decide +kernel
theorem nb_sum : (("sum" : Str) == ("__debug__" : Str)) = false := by decide +kernel
theorem nb__law_text : (("_law_text" : Str) == ("__debug__" : Str)) = false := by decide +kernel
theorem nb__law_program : (("_law_program" : Str) == ("__debug__" : Str)) = false := by decide +kernel
theorem nb__law_form : (("_law_form" : Str) == ("__debug__" : Str)) = false := by decide +kernel
theorem nc__law_form : (("_law_form" : Str) == ("__classdict__" : Str)) = false := by decide +kernel
theorem bt_repr : bootBuiltins "repr" = some (.builtin "repr") := by decide +kernel
theorem nb__law_due : (("_law_due" : Str) == ("__debug__" : Str)) = false := by decide +kernel
theorem nc__law_due : (("_law_due" : Str) == ("__classdict__" : Str)) = false := by decide +kernel
theorem nn_repr : ("repr" : Str) ≠ "__name__" := by decide +kernel
theorem nb_repr : (("repr" : Str) == ("__debug__" : Str)) = false := by decide +kernel
theorem bt_min : bootBuiltins "min" = some (.builtin "min") := by decide +kernel
theorem nn_min : ("min" : Str) ≠ "__name__" := by decide +kernel
theorem nb_min : (("min" : Str) == ("__debug__" : Str)) = false := by decide +kernel
theorem bt_max : bootBuiltins "max" = some (.builtin "max") := by decide +kernel
theorem nn_max : ("max" : Str) ≠ "__name__" := by decide +kernel
theorem nb_max : (("max" : Str) == ("__debug__" : Str)) = false := by decide +kernel
theorem nb__law_deck : (("_law_deck" : Str) == ("__debug__" : Str)) = false := by decide +kernel
theorem nb__law_good : (("_law_good" : Str) == ("__debug__" : Str)) = false := by decide +kernel
theorem nb_Form : (("Form" : Str) == ("__debug__" : Str)) = false := by decide +kernel
theorem nb__law_rows : (("_law_rows" : Str) == ("__debug__" : Str)) = false := by decide +kernel
theorem nc__law_rows : (("_law_rows" : Str) == ("__classdict__" : Str)) = false := by decide +kernel
theorem nb__law_right : (("_law_right" : Str) == ("__debug__" : Str)) = false := by decide +kernel
abbrev F_is_whole : Nat := 0
abbrev F_is_spelt : Nat := 1
abbrev F_is_unknown : Nat := 2
abbrev F_is_row : Nat := 3
abbrev F_is_square : Nat := 4
abbrev F_nought : Nat := 5
abbrev F_are_parts : Nat := 6
abbrev F_Form___init__ : Nat := 7
abbrev F_Form___len__ : Nat := 8
abbrev F_Form___str__ : Nat := 9
abbrev F_Form___repr__ : Nat := 10
abbrev F_shown_numbers : Nat := 11
abbrev F_shown_row : Nat := 12
abbrev F_shown_square : Nat := 13
abbrev F_law_deck : Nat := 14
abbrev F_law_draw : Nat := 15
abbrev F_law_number : Nat := 16
abbrev F_law_row : Nat := 17
abbrev F_law_square : Nat := 18
abbrev F_law_words : Nat := 19
abbrev F_law_unknowns : Nat := 20
abbrev F_law_line : Nat := 21
abbrev F_law_text : Nat := 22
abbrev F_law_tuple : Nat := 23
abbrev F_law_program : Nat := 24
abbrev F_law_good : Nat := 25
abbrev F_law_right : Nat := 26
abbrev F_law : Nat := 27
abbrev F_new_Form_2 : Nat := 28
section
variable {P : Program} {w : World} {K : PySem.W.Frag} {mg : Str → Option Value} {base : Heap}
abbrev s_is_whole : Stmt := top 8
theorem sc_is_whole : FnScope ["thing"] ["thing"] (defScope s_is_whole) := ⟨rfl, rfl, rfl, by decide +kernel, rfl, by decide +kernel, by decide +kernel⟩
theorem v_is_whole_0 : Vis (defScope s_is_whole) "thing" := Or.inl (by decide +kernel)
theorem g_is_whole_isinstance : (defScope s_is_whole).names.lookup ("isinstance" : Str) = some NameKind.globalImplicit := by decide +kernel
theorem g_is_whole_int : (defScope s_is_whole).names.lookup ("int" : Str) = some NameKind.globalImplicit := by decide +kernel
theorem g_is_whole_bool : (defScope s_is_whole).names.lookup ("bool" : Str) = some NameKind.globalImplicit := by decide +kernel
def w_is_whole (fa : Nat → Addr) : WS :=
  (sRet (wAndT (wIsi "int" (wVar 0)) (wNotT (wIsi "bool" (wVar 0)))))
def q_is_whole (fa : Nat → Addr) : QS :=
  (.ret (.andV (.isi "int" (.var 0)) (.notV (.isi "bool" (.var 0)))))
theorem qd_is_whole {fa : Nat → Addr} (φ : Nat → Spc) : (q_is_whole fa).den φ = w_is_whole fa := rfl
theorem ok_is_whole {fa : Nat → Addr} {S : Spc} {k : Nat} {f : Addr} {fd : FuncData} (F : Fun K "is_whole" "is_whole" s_is_whole f fd) (T : Txt mg) (CT : CTs K mg fa) 
    (hS : ∀ xs sto Q, xs.length = 1 → S xs sto Q → w_is_whole fa  { nx := fun _ st' => Q .non st', rt := Q } (startP ["thing"] xs) sto) : FnG P w K mg base (k + 1) f fd ["thing"] (spOf K 1 S) :=
  fn_ok F sc_is_whole rfl (fun cdv A outer s H G =>
    (ds_one (ds_ret (d_and (d_isi it_int g_is_whole_isinstance T.m_isinstance g_is_whole_int T.m_int bt_int (dv 0 rfl v_is_whole_0 nb_thing nc_thing) nn_int nb_int) (d_one (d_not (d_isi it_bool g_is_whole_isinstance T.m_isinstance g_is_whole_bool T.m_bool bt_bool (dv 0 rfl v_is_whole_0 nb_thing nc_thing) nn_bool nb_bool))))))) hS
abbrev s_is_spelt : Stmt := top 9
theorem sc_is_spelt : FnScope ["thing", "ahead", "first", "rest", "sign"] ["thing", "ahead"] (defScope s_is_spelt) := ⟨rfl, rfl, rfl, by decide +kernel, rfl, by decide +kernel, by decide +kernel⟩
theorem v_is_spelt_0 : Vis (defScope s_is_spelt) "thing" := Or.inl (by decide +kernel)
theorem g_is_spelt_isinstance : (defScope s_is_spelt).names.lookup ("isinstance" : Str) = some NameKind.globalImplicit := by decide +kernel
theorem g_is_spelt_str : (defScope s_is_spelt).names.lookup ("str" : Str) = some NameKind.globalImplicit := by decide +kernel
theorem g_is_spelt_len : (defScope s_is_spelt).names.lookup ("len" : Str) = some NameKind.globalImplicit := by decide +kernel
theorem g_is_spelt_LONGEST : (defScope s_is_spelt).names.lookup ("LONGEST" : Str) = some NameKind.globalImplicit := by decide +kernel
theorem l_is_spelt_3 : Loc (defScope s_is_spelt) "rest" := Or.inl (by decide +kernel)
theorem l_is_spelt_2 : Loc (defScope s_is_spelt) "first" := Or.inl (by decide +kernel)
theorem v_is_spelt_2 : Vis (defScope s_is_spelt) "first" := Or.inl (by decide +kernel)
theorem v_is_spelt_1 : Vis (defScope s_is_spelt) "ahead" := Or.inl (by decide +kernel)
theorem v_is_spelt_3 : Vis (defScope s_is_spelt) "rest" := Or.inl (by decide +kernel)
theorem g_is_spelt_all : (defScope s_is_spelt).names.lookup ("all" : Str) = some NameKind.globalImplicit := by decide +kernel
def w_is_spelt (fa : Nat → Addr) : WS :=
  (sSeq (sIf (tOrP (tNotP (tTru (wIsi "str" (wVar 0)))) (tNotP (tChainP leR leR (wC (.int 1)) (wCa lenR (wCons (wVar 0) wNil)) (wC (.int 6))))) (sRet (wC (.bl false))) sNext)
  (sSeq (sAsg (wVar 0) (gStar false 2 1 (gCn (gNm 2) (gCn (gNm 3) gNl))))
  (sRet (wAndT (wOp inA (wVar 2) (wVar 1)) (wCa allR (wCons (wLc false (iVal (wVar 3)) (gNm 4) tYesP (wOp inSR (wVar 4) (wC (.str "abcdefghijklmnopqrstuvwxyz"))) [4]) wNil))))))
def q_is_spelt (fa : Nat → Addr) : QS :=
  (.seq (.ite (.or (.not (.tru (.isi "str" (.var 0)))) (.not (.chain .le .le (.cst (.int 1)) (.ca .len (.cons (.var 0) .nil)) (.cst (.int 6))))) (.ret (.cst (.bl false))) .next) (.seq (.asg (.var 0) (.star false 2 1 (.cons (.nm 2) (.cons (.nm 3) .nil)))) (.ret (.andV (.op .inL (.var 2) (.var 1)) (.ca .all (.cons (.lc false (.val (.var 3)) (.nm 4) .yes (.op .inS (.var 4) (.cst (.str "abcdefghijklmnopqrstuvwxyz"))) [4]) .nil))))))
theorem qd_is_spelt {fa : Nat → Addr} (φ : Nat → Spc) : (q_is_spelt fa).den φ = w_is_spelt fa := rfl
theorem ok_is_spelt {fa : Nat → Addr} {S : Spc} {k : Nat} {f : Addr} {fd : FuncData} (F : Fun K "is_spelt" "is_spelt" s_is_spelt f fd) (T : Txt mg) (CT : CTs K mg fa) 
    (hS : ∀ xs sto Q, xs.length = 2 → S xs sto Q → w_is_spelt fa  { nx := fun _ st' => Q .non st', rt := Q } (startP ["thing", "ahead", "first", "rest", "sign"] xs) sto) : FnG P w K mg base (k + 1) f fd ["thing", "ahead"] (spOf K 2 S) :=
  fn_ok F sc_is_spelt rfl (fun cdv A outer s H G =>
    (ds_cons (ds_if (dt_w (dw_or (dt_not (dt_tru (d_isi it_str g_is_spelt_isinstance T.m_isinstance g_is_spelt_str T.m_str bt_str (dv 0 rfl v_is_spelt_0 nb_thing nc_thing) nn_str nb_str))) (dw_or1 (dt_not (dt_chain dop_le dop_le d_int (d_callB dca_len g_is_spelt_len T.m_len bt_len (da_cons (dv 0 rfl v_is_spelt_0 nb_thing nc_thing) da_nil) nn_len nb_len) (d_gInt T.k_LONGEST g_is_spelt_LONGEST nb_LONGEST)))))) (ds_one (ds_ret d_bl)) ds_nil)
    (ds_cons (ds_asg (dv 0 rfl v_is_spelt_0 nb_thing nc_thing) (dg_star false _ 2 1 G.calm (dgs_cons (dg_name (i := 2) sc_is_spelt.nd rfl l_is_spelt_2 (Or.inl rfl)) (dgs_cons (dg_name (i := 3) sc_is_spelt.nd rfl l_is_spelt_3 (Or.inl rfl)) dgs_nil))))
    (ds_one (ds_ret (d_and (d_cmp (dop_inA G) (dv 2 rfl v_is_spelt_2 nb_first nc_first) (dv 1 rfl v_is_spelt_1 nb_ahead nc_ahead) (mark_no rfl)) (d_one (d_callB (dca_all G.calm) g_is_spelt_all T.m_all bt_all (da_cons (d_lc false G.calm sc_is_spelt.nd (di_val (dv 3 rfl v_is_spelt_3 nb_rest nc_rest)) (blkOk_by (N := ["thing", "ahead", "first", "rest", "sign"]) (sc := defScope s_is_spelt) (own := [("sign", 4)]) (by decide +kernel)) (fun _ _ _ _ _ => (dg_name (i := 4) sc_is_spelt.nd rfl (by first | exact loc_blk (Or.inl (by decide +kernel)) | exact loc_blk (Or.inr (by decide +kernel))) (by first | exact fl_blk (by decide +kernel) | exact fc_blk (by decide +kernel)))) (by decide) (fun _ _ _ _ _ => dts_nil) (fun _ _ _ _ _ => (d_cmp dop_inS (dv 4 rfl (by first | exact vis_blk (Or.inl (by decide +kernel)) | exact vis_blk (Or.inr (Or.inl (by decide +kernel))) | exact vis_blk (Or.inr (Or.inr (by decide +kernel)))) nb_sign nc_sign) (d_gStr T.k_SMALL (gl_blk (by decide +kernel)) nb_SMALL) (mark_no rfl)))) da_nil) nn_all nb_all)))))))) hS
abbrev s_is_unknown : Stmt := top 10
theorem sc_is_unknown : FnScope ["thing"] ["thing"] (defScope s_is_unknown) := ⟨rfl, rfl, rfl, by decide +kernel, rfl, by decide +kernel, by decide +kernel⟩
theorem v_is_unknown_0 : Vis (defScope s_is_unknown) "thing" := Or.inl (by decide +kernel)
theorem g_is_unknown_GREAT : (defScope s_is_unknown).names.lookup ("GREAT" : Str) = some NameKind.globalImplicit := by decide +kernel
theorem g_is_unknown_is_spelt : (defScope s_is_unknown).names.lookup ("is_spelt" : Str) = some NameKind.globalImplicit := by decide +kernel
def w_is_unknown (fa : Nat → Addr) (S_is_spelt : Spc) : WS :=
  (sRet (wCall 2 S_is_spelt (wCons (wVar 0) (wCons (wC (.str "ABCDEFGHIJKLMNOPQRSTUVWXYZ")) wNil))))
def q_is_unknown (fa : Nat → Addr) : QS :=
  (.ret (.call 2 F_is_spelt (.cons (.var 0) (.cons (.cst (.str "ABCDEFGHIJKLMNOPQRSTUVWXYZ")) .nil))))
theorem qd_is_unknown {fa : Nat → Addr} (φ : Nat → Spc) : (q_is_unknown fa).den φ = w_is_unknown fa (φ F_is_spelt) := rfl
theorem ok_is_unknown {fa : Nat → Addr} {S_is_spelt : Spc} {S : Spc} {k : Nat} {f : Addr} {fd : FuncData} (F : Fun K "is_unknown" "is_unknown" s_is_unknown f fd) (T : Txt mg) (CT : CTs K mg fa) (C_is_spelt : Callee P w K mg base k "is_spelt" 2 S_is_spelt)
    (hS : ∀ xs sto Q, xs.length = 1 → S xs sto Q → w_is_unknown fa S_is_spelt { nx := fun _ st' => Q .non st', rt := Q } (startP ["thing"] xs) sto) : FnG P w K mg base (k + 1) f fd ["thing"] (spOf K 1 S) :=
  fn_ok F sc_is_unknown rfl (fun cdv A outer s H G =>
    (ds_one (ds_ret (d_callC C_is_spelt G (da_cons (dv 0 rfl v_is_unknown_0 nb_thing nc_thing) (da_cons (d_gStr T.k_GREAT g_is_unknown_GREAT nb_GREAT) da_nil)) g_is_unknown_is_spelt nb_is_spelt)))) hS
abbrev s_is_row : Stmt := top 13
theorem sc_is_row : FnScope ["thing", "one"] ["thing"] (defScope s_is_row) := ⟨rfl, rfl, rfl, by decide +kernel, rfl, by decide +kernel, by decide +kernel⟩
theorem v_is_row_0 : Vis (defScope s_is_row) "thing" := Or.inl (by decide +kernel)
theorem g_is_row_isinstance : (defScope s_is_row).names.lookup ("isinstance" : Str) = some NameKind.globalImplicit := by decide +kernel
theorem g_is_row_tuple : (defScope s_is_row).names.lookup ("tuple" : Str) = some NameKind.globalImplicit := by decide +kernel
theorem g_is_row_len : (defScope s_is_row).names.lookup ("len" : Str) = some NameKind.globalImplicit := by decide +kernel
theorem g_is_row_WIDEST : (defScope s_is_row).names.lookup ("WIDEST" : Str) = some NameKind.globalImplicit := by decide +kernel
theorem g_is_row_all : (defScope s_is_row).names.lookup ("all" : Str) = some NameKind.globalImplicit := by decide +kernel
def w_is_row (fa : Nat → Addr) (S_is_whole : Spc) : WS :=
  (sSeq (sIf (tOrP (tNotP (tTru (wIsi "tuple" (wVar 0)))) (tNotP (tChainP leR leR (wC (.int 1)) (wCa lenR (wCons (wVar 0) wNil)) (wC (.int 3))))) (sRet (wC (.bl false))) sNext)
  (sRet (wCa allR (wCons (wLc false (iVal (wVar 0)) (gNm 1) tYesP (wAndT (wCall 1 S_is_whole (wCons (wVar 1) wNil)) (wOp geR (wVar 1) (wC (.int 0)))) [1]) wNil))))
def q_is_row (fa : Nat → Addr) : QS :=
  (.seq (.ite (.or (.not (.tru (.isi "tuple" (.var 0)))) (.not (.chain .le .le (.cst (.int 1)) (.ca .len (.cons (.var 0) .nil)) (.cst (.int 3))))) (.ret (.cst (.bl false))) .next) (.ret (.ca .all (.cons (.lc false (.val (.var 0)) (.nm 1) .yes (.andV (.call 1 F_is_whole (.cons (.var 1) .nil)) (.op .ge (.var 1) (.cst (.int 0)))) [1]) .nil))))
theorem qd_is_row {fa : Nat → Addr} (φ : Nat → Spc) : (q_is_row fa).den φ = w_is_row fa (φ F_is_whole) := rfl
theorem ok_is_row {fa : Nat → Addr} {S_is_whole : Spc} {S : Spc} {k : Nat} {f : Addr} {fd : FuncData} (F : Fun K "is_row" "is_row" s_is_row f fd) (T : Txt mg) (CT : CTs K mg fa) (C_is_whole : Callee P w K mg base k "is_whole" 1 S_is_whole)
    (hS : ∀ xs sto Q, xs.length = 1 → S xs sto Q → w_is_row fa S_is_whole { nx := fun _ st' => Q .non st', rt := Q } (startP ["thing", "one"] xs) sto) : FnG P w K mg base (k + 1) f fd ["thing"] (spOf K 1 S) :=
  fn_ok F sc_is_row rfl (fun cdv A outer s H G =>
    (ds_cons (ds_if (dt_w (dw_or (dt_not (dt_tru (d_isi it_tuple g_is_row_isinstance T.m_isinstance g_is_row_tuple T.m_tuple bt_tuple (dv 0 rfl v_is_row_0 nb_thing nc_thing) nn_tuple nb_tuple))) (dw_or1 (dt_not (dt_chain dop_le dop_le d_int (d_callB dca_len g_is_row_len T.m_len bt_len (da_cons (dv 0 rfl v_is_row_0 nb_thing nc_thing) da_nil) nn_len nb_len) (d_gInt T.k_WIDEST g_is_row_WIDEST nb_WIDEST)))))) (ds_one (ds_ret d_bl)) ds_nil)
    (ds_one (ds_ret (d_callB (dca_all G.calm) g_is_row_all T.m_all bt_all (da_cons (d_lc false G.calm sc_is_row.nd (di_val (dv 0 rfl v_is_row_0 nb_thing nc_thing)) (blkOk_by (N := ["thing", "one"]) (sc := defScope s_is_row) (own := [("one", 1)]) (by decide +kernel)) (fun _ _ _ _ _ => (dg_name (i := 1) sc_is_row.nd rfl (by first | exact loc_blk (Or.inl (by decide +kernel)) | exact loc_blk (Or.inr (by decide +kernel))) (by first | exact fl_blk (by decide +kernel) | exact fc_blk (by decide +kernel)))) (by decide) (fun _ _ _ _ _ => dts_nil) (fun _ _ _ _ _ => (d_and (d_callC C_is_whole (xgb G) (da_cons (dv 1 rfl (by first | exact vis_blk (Or.inl (by decide +kernel)) | exact vis_blk (Or.inr (Or.inl (by decide +kernel))) | exact vis_blk (Or.inr (Or.inr (by decide +kernel)))) nb_one nc_one) da_nil) (gl_blk (by decide +kernel)) nb_is_whole) (d_one (d_cmp dop_ge (dv 1 rfl (by first | exact vis_blk (Or.inl (by decide +kernel)) | exact vis_blk (Or.inr (Or.inl (by decide +kernel))) | exact vis_blk (Or.inr (Or.inr (by decide +kernel)))) nb_one nc_one) d_int (mark_no rfl)))))) da_nil) nn_all nb_all))))) hS
abbrev s_is_square : Stmt := top 14
theorem sc_is_square : FnScope ["thing", "row"] ["thing"] (defScope s_is_square) := ⟨rfl, rfl, rfl, by decide +kernel, rfl, by decide +kernel, by decide +kernel⟩
theorem v_is_square_0 : Vis (defScope s_is_square) "thing" := Or.inr (Or.inl (by decide +kernel))
theorem g_is_square_isinstance : (defScope s_is_square).names.lookup ("isinstance" : Str) = some NameKind.globalImplicit := by decide +kernel
theorem g_is_square_tuple : (defScope s_is_square).names.lookup ("tuple" : Str) = some NameKind.globalImplicit := by decide +kernel
theorem g_is_square_len : (defScope s_is_square).names.lookup ("len" : Str) = some NameKind.globalImplicit := by decide +kernel
theorem g_is_square_WIDEST : (defScope s_is_square).names.lookup ("WIDEST" : Str) = some NameKind.globalImplicit := by decide +kernel
theorem g_is_square_all : (defScope s_is_square).names.lookup ("all" : Str) = some NameKind.globalImplicit := by decide +kernel
def w_is_square (fa : Nat → Addr) (S_is_row : Spc) : WS :=
  (sSeq (sIf (tOrP (tNotP (tTru (wIsi "tuple" (wVar 0)))) (tNotP (tChainP leR leR (wC (.int 1)) (wCa lenR (wCons (wVar 0) wNil)) (wC (.int 3))))) (sRet (wC (.bl false))) sNext)
  (sRet (wCa allR (wCons (wLc false (iVal (wVar 0)) (gNm 1) tYesP (wAndT (wCall 1 S_is_row (wCons (wVar 1) wNil)) (wOp eqA (wCa lenR (wCons (wVar 1) wNil)) (wCa lenR (wCons (wVar 0) wNil)))) [1]) wNil))))
def q_is_square (fa : Nat → Addr) : QS :=
  (.seq (.ite (.or (.not (.tru (.isi "tuple" (.var 0)))) (.not (.chain .le .le (.cst (.int 1)) (.ca .len (.cons (.var 0) .nil)) (.cst (.int 3))))) (.ret (.cst (.bl false))) .next) (.ret (.ca .all (.cons (.lc false (.val (.var 0)) (.nm 1) .yes (.andV (.call 1 F_is_row (.cons (.var 1) .nil)) (.op .eq (.ca .len (.cons (.var 1) .nil)) (.ca .len (.cons (.var 0) .nil)))) [1]) .nil))))
theorem qd_is_square {fa : Nat → Addr} (φ : Nat → Spc) : (q_is_square fa).den φ = w_is_square fa (φ F_is_row) := rfl
theorem ok_is_square {fa : Nat → Addr} {S_is_row : Spc} {S : Spc} {k : Nat} {f : Addr} {fd : FuncData} (F : Fun K "is_square" "is_square" s_is_square f fd) (T : Txt mg) (CT : CTs K mg fa) (C_is_row : Callee P w K mg base k "is_row" 1 S_is_row)
    (hS : ∀ xs sto Q, xs.length = 1 → S xs sto Q → w_is_square fa S_is_row { nx := fun _ st' => Q .non st', rt := Q } (startP ["thing", "row"] xs) sto) : FnG P w K mg base (k + 1) f fd ["thing"] (spOf K 1 S) :=
  fn_ok F sc_is_square rfl (fun cdv A outer s H G =>
    (ds_cons (ds_if (dt_w (dw_or (dt_not (dt_tru (d_isi it_tuple g_is_square_isinstance T.m_isinstance g_is_square_tuple T.m_tuple bt_tuple (dv 0 rfl v_is_square_0 nb_thing nc_thing) nn_tuple nb_tuple))) (dw_or1 (dt_not (dt_chain dop_le dop_le d_int (d_callB dca_len g_is_square_len T.m_len bt_len (da_cons (dv 0 rfl v_is_square_0 nb_thing nc_thing) da_nil) nn_len nb_len) (d_gInt T.k_WIDEST g_is_square_WIDEST nb_WIDEST)))))) (ds_one (ds_ret d_bl)) ds_nil)
    (ds_one (ds_ret (d_callB (dca_all G.calm) g_is_square_all T.m_all bt_all (da_cons (d_lc false G.calm sc_is_square.nd (di_val (dv 0 rfl v_is_square_0 nb_thing nc_thing)) (blkOk_by (N := ["thing", "row"]) (sc := defScope s_is_square) (own := [("row", 1)]) (by decide +kernel)) (fun _ _ _ _ _ => (dg_name (i := 1) sc_is_square.nd rfl (by first | exact loc_blk (Or.inl (by decide +kernel)) | exact loc_blk (Or.inr (by decide +kernel))) (by first | exact fl_blk (by decide +kernel) | exact fc_blk (by decide +kernel)))) (by decide) (fun _ _ _ _ _ => dts_nil) (fun _ _ _ _ _ => (d_and (d_callC C_is_row (xgb G) (da_cons (dv 1 rfl (by first | exact vis_blk (Or.inl (by decide +kernel)) | exact vis_blk (Or.inr (Or.inl (by decide +kernel))) | exact vis_blk (Or.inr (Or.inr (by decide +kernel)))) nb_row nc_row) da_nil) (gl_blk (by decide +kernel)) nb_is_row) (d_one (d_cmp (dop_eqA (xgb G)) (d_callB dca_len (gl_blk (by decide +kernel)) T.m_len bt_len (da_cons (dv 1 rfl (by first | exact vis_blk (Or.inl (by decide +kernel)) | exact vis_blk (Or.inr (Or.inl (by decide +kernel))) | exact vis_blk (Or.inr (Or.inr (by decide +kernel)))) nb_row nc_row) da_nil) nn_len nb_len) (d_callB dca_len (gl_blk (by decide +kernel)) T.m_len bt_len (da_cons (dv 0 rfl (by first | exact vis_blk (Or.inr (Or.inr (by decide +kernel))) | exact vis_blk (Or.inl (by decide +kernel)) | exact vis_blk (Or.inr (Or.inl (by decide +kernel)))) nb_thing nc_thing) da_nil) nn_len nb_len) (mark_no rfl)))))) da_nil) nn_all nb_all))))) hS
abbrev s_nought : Stmt := top 15
theorem sc_nought : FnScope ["width"] ["width"] (defScope s_nought) := ⟨rfl, rfl, rfl, by decide +kernel, rfl, by decide +kernel, by decide +kernel⟩
theorem v_nought_0 : Vis (defScope s_nought) "width" := Or.inl (by decide +kernel)
def w_nought (fa : Nat → Addr) : WS :=
  (sRet (wOp mulA (wTup (wCons (wOp mulA (wTup (wCons (wC (.int 0)) wNil)) (wVar 0)) wNil)) (wVar 0)))
def q_nought (fa : Nat → Addr) : QS :=
  (.ret (.op .mulT (.tup (.cons (.op .mulT (.tup (.cons (.cst (.int 0)) .nil)) (.var 0)) .nil)) (.var 0)))
theorem qd_nought {fa : Nat → Addr} (φ : Nat → Spc) : (q_nought fa).den φ = w_nought fa := rfl
theorem ok_nought {fa : Nat → Addr} {S : Spc} {k : Nat} {f : Addr} {fd : FuncData} (F : Fun K "nought" "nought" s_nought f fd) (T : Txt mg) (CT : CTs K mg fa) 
    (hS : ∀ xs sto Q, xs.length = 1 → S xs sto Q → w_nought fa  { nx := fun _ st' => Q .non st', rt := Q } (startP ["width"] xs) sto) : FnG P w K mg base (k + 1) f fd ["width"] (spOf K 1 S) :=
  fn_ok F sc_nought rfl (fun cdv A outer s H G =>
    (ds_one (ds_ret (d_op dop_mulA (d_tup (da_cons (d_op dop_mulA (d_tup (da_cons d_int da_nil)) (dv 0 rfl v_nought_0 nb_width nc_width)) da_nil)) (dv 0 rfl v_nought_0 nb_width nc_width))))) hS
abbrev s_are_parts : Stmt := top 16
theorem sc_are_parts : FnScope ["thing", "width", "one", "other"] ["thing", "width"] (defScope s_are_parts) := ⟨rfl, rfl, rfl, by decide +kernel, rfl, by decide +kernel, by decide +kernel⟩
theorem v_are_parts_0 : Vis (defScope s_are_parts) "thing" := Or.inl (by decide +kernel)
theorem g_are_parts_isinstance : (defScope s_are_parts).names.lookup ("isinstance" : Str) = some NameKind.globalImplicit := by decide +kernel
theorem g_are_parts_tuple : (defScope s_are_parts).names.lookup ("tuple" : Str) = some NameKind.globalImplicit := by decide +kernel
theorem l_are_parts_2 : Loc (defScope s_are_parts) "one" := Or.inl (by decide +kernel)
theorem v_are_parts_2 : Vis (defScope s_are_parts) "one" := Or.inl (by decide +kernel)
theorem g_are_parts_len : (defScope s_are_parts).names.lookup ("len" : Str) = some NameKind.globalImplicit := by decide +kernel
theorem g_are_parts_is_unknown : (defScope s_are_parts).names.lookup ("is_unknown" : Str) = some NameKind.globalImplicit := by decide +kernel
theorem g_are_parts_is_square : (defScope s_are_parts).names.lookup ("is_square" : Str) = some NameKind.globalImplicit := by decide +kernel
theorem v_are_parts_1 : Vis (defScope s_are_parts) "width" := Or.inl (by decide +kernel)
theorem g_are_parts_nought : (defScope s_are_parts).names.lookup ("nought" : Str) = some NameKind.globalImplicit := by decide +kernel
theorem g_are_parts_zip : (defScope s_are_parts).names.lookup ("zip" : Str) = some NameKind.globalImplicit := by decide +kernel
theorem g_are_parts_all : (defScope s_are_parts).names.lookup ("all" : Str) = some NameKind.globalImplicit := by decide +kernel
def w_are_parts (fa : Nat → Addr) (S_is_unknown S_is_square S_nought : Spc) : WS :=
  (sSeq (sIf (tNotP (tTru (wIsi "tuple" (wPq (wVar 0))))) (sRet (wC (.bl false))) sNext)
  (sSeq (sFor (iVal (wPq (wVar 0))) (gNm 2)
    (sSeq (sIf (tOrP (tNotP (tTru (wIsi "tuple" (wVar 2)))) (tOrP (tValP (wOp neA (wCa lenR (wCons (wVar 2) wNil)) (wC (.int 2)))) (tOrP (tNotP (tTru (wCall 1 S_is_unknown (wCons (wOp ixR (wVar 2) (wC (.int 0))) wNil)))) (tNotP (tTru (wCall 1 S_is_square (wCons (wOp ixR (wVar 2) (wC (.int 1))) wNil))))))) (sRet (wC (.bl false))) sNext)
  (sIf (tOrP (tValP (wOp neA (wCa lenR (wCons (wOp ixR (wVar 2) (wC (.int 1))) wNil)) (wVar 1))) (tValP (wOp eqA (wOp ixR (wVar 2) (wC (.int 1))) (wCall 1 S_nought (wCons (wVar 1) wNil))))) (sRet (wC (.bl false))) sNext)))
  (sRet (wCa allR (wCons (wLc false (iZipP (wCons (wPq (wSl false (wPq (wVar 0)) oNo (oSo (wNeg (wC (.int 1)))))) (wCons (wPq (wSl false (wPq (wVar 0)) (oSo (wC (.int 1))) oNo)) wNil))) (gTp 2 (gCn (gNm 2) (gCn (gNm 3) gNl))) tYesP (wOp ltR (wOp ixR (wVar 2) (wC (.int 0))) (wOp ixR (wVar 3) (wC (.int 0)))) [2, 3]) wNil)))))
def q_are_parts (fa : Nat → Addr) : QS :=
  (.seq (.ite (.not (.tru (.isi "tuple" (.f1 wPq (.var 0))))) (.ret (.cst (.bl false))) .next) (.seq (.for (.val (.f1 wPq (.var 0))) (.nm 2) (.seq (.ite (.or (.not (.tru (.isi "tuple" (.var 2)))) (.or (.val (.op .ne (.ca .len (.cons (.var 2) .nil)) (.cst (.int 2)))) (.or (.not (.tru (.call 1 F_is_unknown (.cons (.op .ix (.var 2) (.cst (.int 0))) .nil)))) (.not (.tru (.call 1 F_is_square (.cons (.op .ix (.var 2) (.cst (.int 1))) .nil))))))) (.ret (.cst (.bl false))) .next) (.ite (.or (.val (.op .ne (.ca .len (.cons (.op .ix (.var 2) (.cst (.int 1))) .nil)) (.var 1))) (.val (.op .eq (.op .ix (.var 2) (.cst (.int 1))) (.call 1 F_nought (.cons (.var 1) .nil))))) (.ret (.cst (.bl false))) .next))) (.ret (.ca .all (.cons (.lc false (.zip (.cons (.f1 wPq (.sl false (.f1 wPq (.var 0)) .no (.so (.neg (.cst (.int 1)))))) (.cons (.f1 wPq (.sl false (.f1 wPq (.var 0)) (.so (.cst (.int 1))) .no)) .nil))) (.tp 2 (.cons (.nm 2) (.cons (.nm 3) .nil))) .yes (.op .lt (.op .ix (.var 2) (.cst (.int 0))) (.op .ix (.var 3) (.cst (.int 0)))) [2 , 3]) .nil)))))
theorem qd_are_parts {fa : Nat → Addr} (φ : Nat → Spc) : (q_are_parts fa).den φ = w_are_parts fa (φ F_is_unknown) (φ F_is_square) (φ F_nought) := rfl
theorem ok_are_parts {fa : Nat → Addr} {S_is_unknown S_is_square S_nought : Spc} {S : Spc} {k : Nat} {f : Addr} {fd : FuncData} (F : Fun K "are_parts" "are_parts" s_are_parts f fd) (T : Txt mg) (CT : CTs K mg fa) (C_is_unknown : Callee P w K mg base k "is_unknown" 1 S_is_unknown) (C_is_square : Callee P w K mg base k "is_square" 1 S_is_square) (C_nought : Callee P w K mg base k "nought" 1 S_nought)
    (hS : ∀ xs sto Q, xs.length = 2 → S xs sto Q → w_are_parts fa S_is_unknown S_is_square S_nought { nx := fun _ st' => Q .non st', rt := Q } (startP ["thing", "width", "one", "other"] xs) sto) : FnG P w K mg base (k + 1) f fd ["thing", "width"] (spOf K 2 S) :=
  fn_ok F sc_are_parts rfl (fun cdv A outer s H G =>
    (ds_cons (ds_if (dt_not (dt_tru (d_isi it_tuple g_are_parts_isinstance T.m_isinstance g_are_parts_tuple T.m_tuple bt_tuple (d_ptq (dv 0 rfl v_are_parts_0 nb_thing nc_thing)) nn_tuple nb_tuple))) (ds_one (ds_ret d_bl)) ds_nil)
    (ds_cons (ds_for PassesOwn.never G.calm (di_val (d_ptq (dv 0 rfl v_are_parts_0 nb_thing nc_thing))) (dg_name (i := 2) sc_are_parts.nd rfl l_are_parts_2 (Or.inl rfl)) (ds_cons (ds_if (dt_w (dw_or (dt_not (dt_tru (d_isi it_tuple g_are_parts_isinstance T.m_isinstance g_are_parts_tuple T.m_tuple bt_tuple (dv 2 rfl v_are_parts_2 nb_one nc_one) nn_tuple nb_tuple))) (dw_or (dt_cmp (dop_neA G) (d_callB dca_len g_are_parts_len T.m_len bt_len (da_cons (dv 2 rfl v_are_parts_2 nb_one nc_one) da_nil) nn_len nb_len) d_int (mark_no rfl)) (dw_or (dt_not (dt_tru (d_callC C_is_unknown G (da_cons (d_ix (dv 2 rfl v_are_parts_2 nb_one nc_one) d_int) da_nil) g_are_parts_is_unknown nb_is_unknown))) (dw_or1 (dt_not (dt_tru (d_callC C_is_square G (da_cons (d_ix (dv 2 rfl v_are_parts_2 nb_one nc_one) d_int) da_nil) g_are_parts_is_square nb_is_square)))))))) (ds_one (ds_ret d_bl)) ds_nil)
    (ds_one (ds_if (dt_w (dw_or (dt_cmp (dop_neA G) (d_callB dca_len g_are_parts_len T.m_len bt_len (da_cons (d_ix (dv 2 rfl v_are_parts_2 nb_one nc_one) d_int) da_nil) nn_len nb_len) (dv 1 rfl v_are_parts_1 nb_width nc_width) (mark_no rfl)) (dw_or1 (dt_cmp (dop_eqA G) (d_ix (dv 2 rfl v_are_parts_2 nb_one nc_one) d_int) (d_callC C_nought G (da_cons (dv 1 rfl v_are_parts_1 nb_width nc_width) da_nil) g_are_parts_nought nb_nought) (mark_no rfl))))) (ds_one (ds_ret d_bl)) ds_nil))))
    (ds_one (ds_ret (d_callB (dca_all G.calm) g_are_parts_all T.m_all bt_all (da_cons (d_lc false G.calm sc_are_parts.nd (di_zip g_are_parts_zip T.m_zip (da_cons (d_ptq (d_slice false (d_ptq (dv 0 rfl v_are_parts_0 nb_thing nc_thing)) do_no (do_so (d_neg d_int)))) (da_cons (d_ptq (d_slice false (d_ptq (dv 0 rfl v_are_parts_0 nb_thing nc_thing)) (do_so d_int) do_no)) da_nil))) (blkOk_by (N := ["thing", "width", "one", "other"]) (sc := defScope s_are_parts) (own := [("one", 2), ("other", 3)]) (by decide +kernel)) (fun _ _ _ _ _ => (dg_tup (xgb G).calm (dgs_cons (dg_name (i := 2) sc_are_parts.nd rfl (by first | exact loc_blk (Or.inl (by decide +kernel)) | exact loc_blk (Or.inr (by decide +kernel))) (by first | exact fl_blk (by decide +kernel) | exact fc_blk (by decide +kernel))) (dgs_cons (dg_name (i := 3) sc_are_parts.nd rfl (by first | exact loc_blk (Or.inl (by decide +kernel)) | exact loc_blk (Or.inr (by decide +kernel))) (by first | exact fl_blk (by decide +kernel) | exact fc_blk (by decide +kernel))) dgs_nil)))) (by decide) (fun _ _ _ _ _ => dts_nil) (fun _ _ _ _ _ => (d_cmp dop_lt (d_ix (dv 2 rfl (by first | exact vis_blk (Or.inl (by decide +kernel)) | exact vis_blk (Or.inr (Or.inl (by decide +kernel))) | exact vis_blk (Or.inr (Or.inr (by decide +kernel)))) nb_one nc_one) d_int) (d_ix (dv 3 rfl (by first | exact vis_blk (Or.inl (by decide +kernel)) | exact vis_blk (Or.inr (Or.inl (by decide +kernel))) | exact vis_blk (Or.inr (Or.inr (by decide +kernel)))) nb_other nc_other) d_int) (mark_no rfl)))) da_nil) nn_all nb_all)))))) hS
abbrev s_Form___init__ : Stmt := inClass (top 17) 0
theorem sc_Form___init__ : FnScope ["self", "base", "parts"] ["self", "base", "parts"] (defScope s_Form___init__) := ⟨rfl, rfl, rfl, by decide +kernel, rfl, by decide +kernel, by decide +kernel⟩
theorem v_Form___init___2 : Vis (defScope s_Form___init__) "parts" := Or.inl (by decide +kernel)
theorem l_Form___init___2 : Loc (defScope s_Form___init__) "parts" := Or.inl (by decide +kernel)
theorem v_Form___init___1 : Vis (defScope s_Form___init__) "base" := Or.inl (by decide +kernel)
theorem g_Form___init___is_row : (defScope s_Form___init__).names.lookup ("is_row" : Str) = some NameKind.globalImplicit := by decide +kernel
theorem g_Form___init___len : (defScope s_Form___init__).names.lookup ("len" : Str) = some NameKind.globalImplicit := by decide +kernel
theorem g_Form___init___are_parts : (defScope s_Form___init__).names.lookup ("are_parts" : Str) = some NameKind.globalImplicit := by decide +kernel
theorem v_Form___init___0 : Vis (defScope s_Form___init__) "self" := Or.inl (by decide +kernel)
def w_Form___init__ (fa : Nat → Addr) (S_is_row S_are_parts : Spc) : WS :=
  (sSeq (sIf (tValP (wOp isNR (wVar 2) (wC .non))) (sAsg (wC (.ptp [])) (gNm 2)) sNext)
  (sSeq (sIf (tOrP (tNotP (tTru (wCall 1 S_is_row (wCons (wVar 1) wNil)))) (tNotP (tTru (wCall 2 S_are_parts (wCons (wVar 2) (wCons (wCa lenR (wCons (wVar 1) wNil)) wNil)))))) sNever sNext)
  (sSeq (sDrop (wSetF 0 (fa 0) "base" (wVar 1)))
  (sDrop (wSetF 0 (fa 0) "parts" (wVar 2))))))
def q_Form___init__ (fa : Nat → Addr) : QS :=
  (.seq (.ite (.val (.op .isN (.var 2) (.cst .non))) (.asg (.cst (.ptp [])) (.nm 2)) .next) (.seq (.ite (.or (.not (.tru (.call 1 F_is_row (.cons (.var 1) .nil)))) (.not (.tru (.call 2 F_are_parts (.cons (.var 2) (.cons (.ca .len (.cons (.var 1) .nil)) .nil)))))) .never .next) (.seq (.drop (.f1 (wSetF 0 (fa 0) "base") (.var 1))) (.drop (.f1 (wSetF 0 (fa 0) "parts") (.var 2))))))
theorem qd_Form___init__ {fa : Nat → Addr} (φ : Nat → Spc) : (q_Form___init__ fa).den φ = w_Form___init__ fa (φ F_is_row) (φ F_are_parts) := rfl
theorem ok_Form___init__ {fa : Nat → Addr} {S_is_row S_are_parts : Spc} {S : Spc} {k : Nat} {f : Addr} {fd : FuncData} (F : FunD K "__init__" "Form.__init__" (defArgs s_Form___init__) (defBody s_Form___init__) (defScope s_Form___init__) [V.non] [] f fd) (T : Txt mg) (CT : CTs K mg fa) (C_is_row : Callee P w K mg base k "is_row" 1 S_is_row) (C_are_parts : Callee P w K mg base k "are_parts" 2 S_are_parts)
    (hS : ∀ xs sto Q, xs.length = 3 → S xs sto Q → w_Form___init__ fa S_is_row S_are_parts { nx := fun _ st' => Q .non st', rt := Q } (startP ["self", "base", "parts"] xs) sto) : FnG P w K mg base (k + 1) f fd ["self", "base", "parts"] (spOf K 3 S) :=
  fn_okD F sc_Form___init__ rfl (fun cdv A outer s H G =>
    (ds_cons (ds_if (dt_cmp dop_isN (dv 2 rfl v_Form___init___2 nb_parts nc_parts) d_non (mark_no rfl)) (ds_one (ds_set (i := 2) sc_Form___init__.nd rfl l_Form___init___2 d_ptup0 (by exact swaps_no rfl) (Or.inl rfl))) ds_nil)
    (ds_cons (ds_if (dt_w (dw_or (dt_not (dt_tru (d_callC C_is_row G (da_cons (dv 1 rfl v_Form___init___1 nb_base nc_base) da_nil) g_Form___init___is_row nb_is_row))) (dw_or1 (dt_not (dt_tru (d_callC C_are_parts G (da_cons (dv 2 rfl v_Form___init___2 nb_parts nc_parts) (da_cons (d_callB dca_len g_Form___init___len T.m_len bt_len (da_cons (dv 1 rfl v_Form___init___1 nb_base nc_base) da_nil) nn_len nb_len) da_nil)) g_Form___init___are_parts nb_are_parts)))))) (ds_one ds_never) ds_nil)
    (ds_cons (ds_setF (i := 0) CT.cl_Form CT.na_Form_base rfl v_Form___init___0 (dv 1 rfl v_Form___init___1 nb_base nc_base) nb_self nc_self (by exact swaps_no rfl))
    (ds_one (ds_setF (i := 0) CT.cl_Form CT.na_Form_parts rfl v_Form___init___0 (dv 2 rfl v_Form___init___2 nb_parts nc_parts) nb_self nc_self (by exact swaps_no rfl))))))) hS
abbrev s_Form___len__ : Stmt := inClass (top 17) 2
theorem sc_Form___len__ : FnScope ["self"] ["self"] (defScope s_Form___len__) := ⟨rfl, rfl, rfl, by decide +kernel, rfl, by decide +kernel, by decide +kernel⟩
theorem v_Form___len___0 : Vis (defScope s_Form___len__) "self" := Or.inl (by decide +kernel)
theorem g_Form___len___len : (defScope s_Form___len__).names.lookup ("len" : Str) = some NameKind.globalImplicit := by decide +kernel
def w_Form___len__ (fa : Nat → Addr) : WS :=
  (sRet (wCa lenR (wCons (wPq (wFld (fa 0) "parts" (wVar 0))) wNil)))
def q_Form___len__ (fa : Nat → Addr) : QS :=
  (.ret (.ca .len (.cons (.f1 wPq (.f1 (wFld (fa 0) "parts") (.var 0))) .nil)))
theorem qd_Form___len__ {fa : Nat → Addr} (φ : Nat → Spc) : (q_Form___len__ fa).den φ = w_Form___len__ fa := rfl
theorem ok_Form___len__ {fa : Nat → Addr} {S : Spc} {k : Nat} {f : Addr} {fd : FuncData} (F : Fun K "__len__" "Form.__len__" s_Form___len__ f fd) (T : Txt mg) (CT : CTs K mg fa) 
    (hS : ∀ xs sto Q, xs.length = 1 → S xs sto Q → w_Form___len__ fa  { nx := fun _ st' => Q .non st', rt := Q } (startP ["self"] xs) sto) : FnG P w K mg base (k + 1) f fd ["self"] (spOf K 1 S) :=
  fn_ok F sc_Form___len__ rfl (fun cdv A outer s H G =>
    (ds_one (ds_ret (d_callB dca_len g_Form___len___len T.m_len bt_len (da_cons (d_ptq (d_fld CT.cl_Form CT.na_Form_parts (dv 0 rfl v_Form___len___0 nb_self nc_self))) da_nil) nn_len nb_len)))) hS
abbrev s_Form___str__ : Stmt := inClass (top 17) 3
theorem sc_Form___str__ : FnScope ["self", "unknown", "square"] ["self"] (defScope s_Form___str__) := ⟨rfl, rfl, rfl, by decide +kernel, rfl, by decide +kernel, by decide +kernel⟩
theorem v_Form___str___0 : Vis (defScope s_Form___str__) "self" := Or.inl (by decide +kernel)
theorem g_Form___str___shown_row : (defScope s_Form___str__).names.lookup ("shown_row" : Str) = some NameKind.globalImplicit := by decide +kernel
def w_Form___str__ (fa : Nat → Addr) (S_shown_row S_shown_square : Spc) : WS :=
  (sRet (wM "str" joinR (wC (.str " + ")) (wCons (wOp (addR false) (wLst false (wCons (wCall 1 S_shown_row (wCons (wFld (fa 0) "base" (wVar 0)) wNil)) wNil)) (wLc false (iVal (wPq (wFld (fa 0) "parts" (wVar 0)))) (gTp 2 (gCn (gNm 1) (gCn (gNm 2) gNl))) tYesP (wOp (addR false) (wCall 1 S_shown_square (wCons (wVar 2) wNil)) (wVar 1)) [1, 2])) wNil)))
def q_Form___str__ (fa : Nat → Addr) : QS :=
  (.ret (.mt "str" .join (.cst (.str " + ")) (.cons (.op (.add false) (.lst false (.cons (.call 1 F_shown_row (.cons (.f1 (wFld (fa 0) "base") (.var 0)) .nil)) .nil)) (.lc false (.val (.f1 wPq (.f1 (wFld (fa 0) "parts") (.var 0)))) (.tp 2 (.cons (.nm 1) (.cons (.nm 2) .nil))) .yes (.op (.add false) (.call 1 F_shown_square (.cons (.var 2) .nil)) (.var 1)) [1 , 2])) .nil)))
theorem qd_Form___str__ {fa : Nat → Addr} (φ : Nat → Spc) : (q_Form___str__ fa).den φ = w_Form___str__ fa (φ F_shown_row) (φ F_shown_square) := rfl
theorem ok_Form___str__ {fa : Nat → Addr} {S_shown_row S_shown_square : Spc} {S : Spc} {k : Nat} {f : Addr} {fd : FuncData} (F : Fun K "__str__" "Form.__str__" s_Form___str__ f fd) (T : Txt mg) (CT : CTs K mg fa) (C_shown_row : Callee P w K mg base k "shown_row" 1 S_shown_row) (C_shown_square : Callee P w K mg base k "shown_square" 1 S_shown_square)
    (hS : ∀ xs sto Q, xs.length = 1 → S xs sto Q → w_Form___str__ fa S_shown_row S_shown_square { nx := fun _ st' => Q .non st', rt := Q } (startP ["self", "unknown", "square"] xs) sto) : FnG P w K mg base (k + 1) f fd ["self"] (spOf K 1 S) :=
  fn_ok F sc_Form___str__ rfl (fun cdv A outer s H G =>
    (ds_one (ds_ret (d_m PySem.F.plainAttrs_str PySem.F.slot_str_join PySem.F.type_str_join dm_join d_str (da_cons (d_op (dop_add false) (d_lst false (da_cons (d_callC C_shown_row G (da_cons (d_fld CT.cl_Form CT.na_Form_base (dv 0 rfl v_Form___str___0 nb_self nc_self)) da_nil) g_Form___str___shown_row nb_shown_row) da_nil)) (d_lc false G.calm sc_Form___str__.nd (di_val (d_ptq (d_fld CT.cl_Form CT.na_Form_parts (dv 0 rfl v_Form___str___0 nb_self nc_self)))) (blkOk_by (N := ["self", "unknown", "square"]) (sc := defScope s_Form___str__) (own := [("unknown", 1), ("square", 2)]) (by decide +kernel)) (fun _ _ _ _ _ => (dg_tup (xgb G).calm (dgs_cons (dg_name (i := 1) sc_Form___str__.nd rfl (by first | exact loc_blk (Or.inl (by decide +kernel)) | exact loc_blk (Or.inr (by decide +kernel))) (by first | exact fl_blk (by decide +kernel) | exact fc_blk (by decide +kernel))) (dgs_cons (dg_name (i := 2) sc_Form___str__.nd rfl (by first | exact loc_blk (Or.inl (by decide +kernel)) | exact loc_blk (Or.inr (by decide +kernel))) (by first | exact fl_blk (by decide +kernel) | exact fc_blk (by decide +kernel))) dgs_nil)))) (by decide) (fun _ _ _ _ _ => dts_nil) (fun _ _ _ _ _ => (d_op (dop_add false) (d_callC C_shown_square (xgb G) (da_cons (dv 2 rfl (by first | exact vis_blk (Or.inl (by decide +kernel)) | exact vis_blk (Or.inr (Or.inl (by decide +kernel))) | exact vis_blk (Or.inr (Or.inr (by decide +kernel)))) nb_square nc_square) da_nil) (gl_blk (by decide +kernel)) nb_shown_square) (dv 1 rfl (by first | exact vis_blk (Or.inl (by decide +kernel)) | exact vis_blk (Or.inr (Or.inl (by decide +kernel))) | exact vis_blk (Or.inr (Or.inr (by decide +kernel)))) nb_unknown nc_unknown))))) da_nil))))) hS
abbrev s_Form___repr__ : Stmt := inClass (top 17) 4
theorem sc_Form___repr__ : FnScope ["self"] ["self"] (defScope s_Form___repr__) := ⟨rfl, rfl, rfl, by decide +kernel, rfl, by decide +kernel, by decide +kernel⟩
theorem v_Form___repr___0 : Vis (defScope s_Form___repr__) "self" := Or.inl (by decide +kernel)
def w_Form___repr__ (fa : Nat → Addr) : WS :=
  (sRet (wFs2 [(some "Form("), none, (some ", "), none, (some ")")] (wFmtR (wFld (fa 0) "base" (wVar 0))) (wFmtR (wFld (fa 0) "parts" (wVar 0)))))
def q_Form___repr__ (fa : Nat → Addr) : QS :=
  (.ret (.f2 (wFs2 [(some "Form(") , none , (some ", ") , none , (some ")")]) (.f1 wFmtR (.f1 (wFld (fa 0) "base") (.var 0))) (.f1 wFmtR (.f1 (wFld (fa 0) "parts") (.var 0)))))
theorem qd_Form___repr__ {fa : Nat → Addr} (φ : Nat → Spc) : (q_Form___repr__ fa).den φ = w_Form___repr__ fa := rfl
theorem ok_Form___repr__ {fa : Nat → Addr} {S : Spc} {k : Nat} {f : Addr} {fd : FuncData} (F : Fun K "__repr__" "Form.__repr__" s_Form___repr__ f fd) (T : Txt mg) (CT : CTs K mg fa) 
    (hS : ∀ xs sto Q, xs.length = 1 → S xs sto Q → w_Form___repr__ fa  { nx := fun _ st' => Q .non st', rt := Q } (startP ["self"] xs) sto) : FnG P w K mg base (k + 1) f fd ["self"] (spOf K 1 S) :=
  fn_ok F sc_Form___repr__ rfl (fun cdv A outer s H G =>
    (ds_one (ds_ret (d_fs2 (DJ.cons d_str (DJ.cons (d_fmtR G (d_fld CT.cl_Form CT.na_Form_base (dv 0 rfl v_Form___repr___0 nb_self nc_self))) (DJ.cons d_str (DJ.cons (d_fmtR G (d_fld CT.cl_Form CT.na_Form_parts (dv 0 rfl v_Form___repr___0 nb_self nc_self))) (DJ.cons d_str DJ.nil))))))))) hS
abbrev s_shown_numbers : Stmt := top 18
theorem sc_shown_numbers : FnScope ["row", "one"] ["row"] (defScope s_shown_numbers) := ⟨rfl, rfl, rfl, by decide +kernel, rfl, by decide +kernel, by decide +kernel⟩
theorem v_shown_numbers_0 : Vis (defScope s_shown_numbers) "row" := Or.inl (by decide +kernel)
def w_shown_numbers (fa : Nat → Addr) : WS :=
  (sRet (wM "str" joinR (wC (.str " ")) (wCons (wLc false (iVal (wVar 0)) (gNm 1) tYesP (wCa strR (wCons (wVar 1) wNil)) [1]) wNil)))
def q_shown_numbers (fa : Nat → Addr) : QS :=
  (.ret (.mt "str" .join (.cst (.str " ")) (.cons (.lc false (.val (.var 0)) (.nm 1) .yes (.ca (.ext strR) (.cons (.var 1) .nil)) [1]) .nil)))
theorem qd_shown_numbers {fa : Nat → Addr} (φ : Nat → Spc) : (q_shown_numbers fa).den φ = w_shown_numbers fa := rfl
theorem ok_shown_numbers {fa : Nat → Addr} {S : Spc} {k : Nat} {f : Addr} {fd : FuncData} (F : Fun K "shown_numbers" "shown_numbers" s_shown_numbers f fd) (T : Txt mg) (CT : CTs K mg fa) 
    (hS : ∀ xs sto Q, xs.length = 1 → S xs sto Q → w_shown_numbers fa  { nx := fun _ st' => Q .non st', rt := Q } (startP ["row", "one"] xs) sto) : FnG P w K mg base (k + 1) f fd ["row"] (spOf K 1 S) :=
  fn_ok F sc_shown_numbers rfl (fun cdv A outer s H G =>
    (ds_one (ds_ret (d_m PySem.F.plainAttrs_str PySem.F.slot_str_join PySem.F.type_str_join dm_join d_str (da_cons (d_lc false G.calm sc_shown_numbers.nd (di_val (dv 0 rfl v_shown_numbers_0 nb_row nc_row)) (blkOk_by (N := ["row", "one"]) (sc := defScope s_shown_numbers) (own := [("one", 1)]) (by decide +kernel)) (fun _ _ _ _ _ => (dg_name (i := 1) sc_shown_numbers.nd rfl (by first | exact loc_blk (Or.inl (by decide +kernel)) | exact loc_blk (Or.inr (by decide +kernel))) (by first | exact fl_blk (by decide +kernel) | exact fc_blk (by decide +kernel)))) (by decide) (fun _ _ _ _ _ => dts_nil) (fun _ _ _ _ _ => (d_callTy dca_str (gl_blk (by decide +kernel)) T.m_str bt_str (da_cons (dv 1 rfl (by first | exact vis_blk (Or.inl (by decide +kernel)) | exact vis_blk (Or.inr (Or.inl (by decide +kernel))) | exact vis_blk (Or.inr (Or.inr (by decide +kernel)))) nb_one nc_one) da_nil) nn_str nb_str))) da_nil))))) hS
abbrev s_shown_row : Stmt := top 19
theorem sc_shown_row : FnScope ["row"] ["row"] (defScope s_shown_row) := ⟨rfl, rfl, rfl, by decide +kernel, rfl, by decide +kernel, by decide +kernel⟩
theorem v_shown_row_0 : Vis (defScope s_shown_row) "row" := Or.inl (by decide +kernel)
theorem g_shown_row_shown_numbers : (defScope s_shown_row).names.lookup ("shown_numbers" : Str) = some NameKind.globalImplicit := by decide +kernel
def w_shown_row (fa : Nat → Addr) (S_shown_numbers : Spc) : WS :=
  (sRet (wOp (addR false) (wOp (addR false) (wC (.str "[")) (wCall 1 S_shown_numbers (wCons (wVar 0) wNil))) (wC (.str "]"))))
def q_shown_row (fa : Nat → Addr) : QS :=
  (.ret (.op (.add false) (.op (.add false) (.cst (.str "[")) (.call 1 F_shown_numbers (.cons (.var 0) .nil))) (.cst (.str "]"))))
theorem qd_shown_row {fa : Nat → Addr} (φ : Nat → Spc) : (q_shown_row fa).den φ = w_shown_row fa (φ F_shown_numbers) := rfl
theorem ok_shown_row {fa : Nat → Addr} {S_shown_numbers : Spc} {S : Spc} {k : Nat} {f : Addr} {fd : FuncData} (F : Fun K "shown_row" "shown_row" s_shown_row f fd) (T : Txt mg) (CT : CTs K mg fa) (C_shown_numbers : Callee P w K mg base k "shown_numbers" 1 S_shown_numbers)
    (hS : ∀ xs sto Q, xs.length = 1 → S xs sto Q → w_shown_row fa S_shown_numbers { nx := fun _ st' => Q .non st', rt := Q } (startP ["row"] xs) sto) : FnG P w K mg base (k + 1) f fd ["row"] (spOf K 1 S) :=
  fn_ok F sc_shown_row rfl (fun cdv A outer s H G =>
    (ds_one (ds_ret (d_op (dop_add false) (d_op (dop_add false) d_str (d_callC C_shown_numbers G (da_cons (dv 0 rfl v_shown_row_0 nb_row nc_row) da_nil) g_shown_row_shown_numbers nb_shown_numbers)) d_str)))) hS
abbrev s_shown_square : Stmt := top 20
theorem sc_shown_square : FnScope ["square", "row"] ["square"] (defScope s_shown_square) := ⟨rfl, rfl, rfl, by decide +kernel, rfl, by decide +kernel, by decide +kernel⟩
theorem v_shown_square_0 : Vis (defScope s_shown_square) "square" := Or.inl (by decide +kernel)
def w_shown_square (fa : Nat → Addr) (S_shown_numbers : Spc) : WS :=
  (sRet (wOp (addR false) (wOp (addR false) (wC (.str "[")) (wM "str" joinR (wC (.str ";")) (wCons (wLc false (iVal (wVar 0)) (gNm 1) tYesP (wCall 1 S_shown_numbers (wCons (wVar 1) wNil)) [1]) wNil))) (wC (.str "]"))))
def q_shown_square (fa : Nat → Addr) : QS :=
  (.ret (.op (.add false) (.op (.add false) (.cst (.str "[")) (.mt "str" .join (.cst (.str ";")) (.cons (.lc false (.val (.var 0)) (.nm 1) .yes (.call 1 F_shown_numbers (.cons (.var 1) .nil)) [1]) .nil))) (.cst (.str "]"))))
theorem qd_shown_square {fa : Nat → Addr} (φ : Nat → Spc) : (q_shown_square fa).den φ = w_shown_square fa (φ F_shown_numbers) := rfl
theorem ok_shown_square {fa : Nat → Addr} {S_shown_numbers : Spc} {S : Spc} {k : Nat} {f : Addr} {fd : FuncData} (F : Fun K "shown_square" "shown_square" s_shown_square f fd) (T : Txt mg) (CT : CTs K mg fa) (C_shown_numbers : Callee P w K mg base k "shown_numbers" 1 S_shown_numbers)
    (hS : ∀ xs sto Q, xs.length = 1 → S xs sto Q → w_shown_square fa S_shown_numbers { nx := fun _ st' => Q .non st', rt := Q } (startP ["square", "row"] xs) sto) : FnG P w K mg base (k + 1) f fd ["square"] (spOf K 1 S) :=
  fn_ok F sc_shown_square rfl (fun cdv A outer s H G =>
    (ds_one (ds_ret (d_op (dop_add false) (d_op (dop_add false) d_str (d_m PySem.F.plainAttrs_str PySem.F.slot_str_join PySem.F.type_str_join dm_join d_str (da_cons (d_lc false G.calm sc_shown_square.nd (di_val (dv 0 rfl v_shown_square_0 nb_square nc_square)) (blkOk_by (N := ["square", "row"]) (sc := defScope s_shown_square) (own := [("row", 1)]) (by decide +kernel)) (fun _ _ _ _ _ => (dg_name (i := 1) sc_shown_square.nd rfl (by first | exact loc_blk (Or.inl (by decide +kernel)) | exact loc_blk (Or.inr (by decide +kernel))) (by first | exact fl_blk (by decide +kernel) | exact fc_blk (by decide +kernel)))) (by decide) (fun _ _ _ _ _ => dts_nil) (fun _ _ _ _ _ => (d_callC C_shown_numbers (xgb G) (da_cons (dv 1 rfl (by first | exact vis_blk (Or.inl (by decide +kernel)) | exact vis_blk (Or.inr (Or.inl (by decide +kernel))) | exact vis_blk (Or.inr (Or.inr (by decide +kernel)))) nb_row nc_row) da_nil) (gl_blk (by decide +kernel)) nb_shown_numbers))) da_nil))) d_str)))) hS
abbrev s_law_deck : Stmt := top 22
theorem sc_law_deck : FnScope ["_law_script", "_law_k", "_law_cell"] ["_law_script", "_law_k"] (defScope s_law_deck) := ⟨rfl, rfl, rfl, by decide +kernel, rfl, by decide +kernel, by decide +kernel⟩
theorem v_law_deck_0 : Vis (defScope s_law_deck) "_law_script" := Or.inl (by decide +kernel)
theorem v_law_deck_1 : Vis (defScope s_law_deck) "_law_k" := Or.inl (by decide +kernel)
theorem l_law_deck_2 : Loc (defScope s_law_deck) "_law_cell" := Or.inl (by decide +kernel)
theorem v_law_deck_2 : Vis (defScope s_law_deck) "_law_cell" := Or.inl (by decide +kernel)
theorem g_law_deck_int : (defScope s_law_deck).names.lookup ("int" : Str) = some NameKind.globalImplicit := by decide +kernel
def w_law_deck (fa : Nat → Addr) : WS :=
  (sSeq (sAsg (wOp ixR (wOp (addR false) (wSl false (wVar 0) (oSo (wVar 1)) (oSo (wOp (addR false) (wVar 1) (wC (.int 1))))) (wLst false (wCons (wOp mulR (wC (.int 7)) (wVar 1)) wNil))) (wC (.int 0))) (gNm 2))
  (sRet (wLst true (wCons (wOp mulR (wVar 2) (wCa intR (wCons (wOp geR (wVar 2) (wOp powR (wC (.int 10)) (wC (.int 18)))) wNil))) (wCons (wC (.int 0)) (wCons (wOp (addR false) (wOp modR (wVar 2) (wC (.int 2305843009213693951))) (wOp mulR (wC (.int 7919)) (wVar 1))) wNil))))))
def q_law_deck (fa : Nat → Addr) : QS :=
  (.seq (.asg (.op .ix (.op (.add false) (.sl false (.var 0) (.so (.var 1)) (.so (.op (.add false) (.var 1) (.cst (.int 1))))) (.lst false (.cons (.op .mul (.cst (.int 7)) (.var 1)) .nil))) (.cst (.int 0))) (.nm 2)) (.ret (.lst true (.cons (.op .mul (.var 2) (.ca .int (.cons (.op .ge (.var 2) (.op .pow (.cst (.int 10)) (.cst (.int 18)))) .nil))) (.cons (.cst (.int 0)) (.cons (.op (.add false) (.op .mod (.var 2) (.cst (.int 2305843009213693951))) (.op .mul (.cst (.int 7919)) (.var 1))) .nil))))))
theorem qd_law_deck {fa : Nat → Addr} (φ : Nat → Spc) : (q_law_deck fa).den φ = w_law_deck fa := rfl
theorem ok_law_deck {fa : Nat → Addr} {S : Spc} {k : Nat} {f : Addr} {fd : FuncData} (F : Fun K "_law_deck" "_law_deck" s_law_deck f fd) (T : Txt mg) (CT : CTs K mg fa) 
    (hS : ∀ xs sto Q, xs.length = 2 → S xs sto Q → w_law_deck fa  { nx := fun _ st' => Q .non st', rt := Q } (startP ["_law_script", "_law_k", "_law_cell"] xs) sto) : FnG P w K mg base (k + 1) f fd ["_law_script", "_law_k"] (spOf K 2 S) :=
  fn_ok F sc_law_deck rfl (fun cdv A outer s H G =>
    (ds_cons (ds_set (i := 2) sc_law_deck.nd rfl l_law_deck_2 (d_ix (d_op (dop_add false) (d_slice false (dv 0 rfl v_law_deck_0 nb__law_script nc__law_script) (do_so (dv 1 rfl v_law_deck_1 nb__law_k nc__law_k)) (do_so (d_op (dop_add false) (dv 1 rfl v_law_deck_1 nb__law_k nc__law_k) d_int))) (d_lst false (da_cons (d_op dop_mul d_int (dv 1 rfl v_law_deck_1 nb__law_k nc__law_k)) da_nil))) d_int) (by exact swaps_no rfl) (Or.inl rfl))
    (ds_one (ds_ret (d_lst true (da_cons (d_op dop_mul (dv 2 rfl v_law_deck_2 nb__law_cell nc__law_cell) (d_callTy dca_int g_law_deck_int T.m_int bt_int (da_cons (d_cmp dop_ge (dv 2 rfl v_law_deck_2 nb__law_cell nc__law_cell) (d_op dop_pow d_int d_int) (mark_no rfl)) da_nil) nn_int nb_int)) (da_cons d_int (da_cons (d_op (dop_add false) (d_op dop_mod (dv 2 rfl v_law_deck_2 nb__law_cell nc__law_cell) d_int) (d_op dop_mul d_int (dv 1 rfl v_law_deck_1 nb__law_k nc__law_k))) da_nil)))))))) hS
abbrev s_law_draw : Stmt := top 23
theorem sc_law_draw : FnScope ["_law_deck_here", "_law_many", "_law_digit", "_law_far"] ["_law_deck_here", "_law_many"] (defScope s_law_draw) := ⟨rfl, rfl, rfl, by decide +kernel, rfl, by decide +kernel, by decide +kernel⟩
theorem v_law_draw_0 : Vis (defScope s_law_draw) "_law_deck_here" := Or.inl (by decide +kernel)
theorem v_law_draw_1 : Vis (defScope s_law_draw) "_law_many" := Or.inl (by decide +kernel)
theorem l_law_draw_2 : Loc (defScope s_law_draw) "_law_digit" := Or.inl (by decide +kernel)
theorem v_law_draw_2 : Vis (defScope s_law_draw) "_law_digit" := Or.inl (by decide +kernel)
theorem l_law_draw_3 : Loc (defScope s_law_draw) "_law_far" := Or.inl (by decide +kernel)
theorem v_law_draw_3 : Vis (defScope s_law_draw) "_law_far" := Or.inl (by decide +kernel)
def w_law_draw (fa : Nat → Addr) : WS :=
  (sSeq (sIf (tValP (wOp gtR (wOp ixR (wVar 0) (wC (.int 0))) (wC (.int 0)))) (sSeq (sAsg (wOp modR (wOp ixR (wVar 0) (wC (.int 0))) (wVar 1)) (gNm 2))
  (sSeq (sAsg (wOp fdivR (wOp ixR (wVar 0) (wC (.int 0))) (wVar 1)) (gIx (wVar 0) (wC (.int 0))))
  (sRet (wVar 2)))) sNext)
  (sSeq (sAsg (wOp (addR false) (wOp ixR (wVar 0) (wC (.int 1))) (wC (.int 1))) (gIx (wVar 0) (wC (.int 1))))
  (sSeq (sAsg (wOp (addR false) (wOp (addR false) (wOp ixR (wVar 0) (wC (.int 2))) (wOp mulR (wOp mulR (wC (.int 104729)) (wOp ixR (wVar 0) (wC (.int 1)))) (wOp ixR (wVar 0) (wC (.int 1))))) (wC (.int 11))) (gNm 3))
  (sSeq (sAsg (wOp modR (wOp mulR (wVar 3) (wC (.int 48271))) (wC (.int 2305843009213693951))) (gNm 3))
  (sSeq (sAsg (wOp modR (wOp (addR false) (wOp (addR false) (wOp mulR (wVar 3) (wVar 3)) (wOp mulR (wC (.int 69621)) (wVar 3))) (wOp ixR (wVar 0) (wC (.int 1)))) (wC (.int 2305843009213693951))) (gNm 3))
  (sRet (wOp modR (wOp fdivR (wOp modR (wOp (addR false) (wOp mulR (wVar 3) (wC (.int 39373))) (wOp ixR (wVar 0) (wC (.int 1)))) (wC (.int 2305843009213693951))) (wC (.int 65536))) (wVar 1))))))))
def q_law_draw (fa : Nat → Addr) : QS :=
  (.seq (.ite (.val (.op .gt (.op .ix (.var 0) (.cst (.int 0))) (.cst (.int 0)))) (.seq (.asg (.op .mod (.op .ix (.var 0) (.cst (.int 0))) (.var 1)) (.nm 2)) (.seq (.asg (.op .fdiv (.op .ix (.var 0) (.cst (.int 0))) (.var 1)) (.ix (.var 0) (.cst (.int 0)))) (.ret (.var 2)))) .next) (.seq (.asg (.op (.add false) (.op .ix (.var 0) (.cst (.int 1))) (.cst (.int 1))) (.ix (.var 0) (.cst (.int 1)))) (.seq (.asg (.op (.add false) (.op (.add false) (.op .ix (.var 0) (.cst (.int 2))) (.op .mul (.op .mul (.cst (.int 104729)) (.op .ix (.var 0) (.cst (.int 1)))) (.op .ix (.var 0) (.cst (.int 1))))) (.cst (.int 11))) (.nm 3)) (.seq (.asg (.op .mod (.op .mul (.var 3) (.cst (.int 48271))) (.cst (.int 2305843009213693951))) (.nm 3)) (.seq (.asg (.op .mod (.op (.add false) (.op (.add false) (.op .mul (.var 3) (.var 3)) (.op .mul (.cst (.int 69621)) (.var 3))) (.op .ix (.var 0) (.cst (.int 1)))) (.cst (.int 2305843009213693951))) (.nm 3)) (.ret (.op .mod (.op .fdiv (.op .mod (.op (.add false) (.op .mul (.var 3) (.cst (.int 39373))) (.op .ix (.var 0) (.cst (.int 1)))) (.cst (.int 2305843009213693951))) (.cst (.int 65536))) (.var 1))))))))
theorem qd_law_draw {fa : Nat → Addr} (φ : Nat → Spc) : (q_law_draw fa).den φ = w_law_draw fa := rfl
theorem ok_law_draw {fa : Nat → Addr} {S : Spc} {k : Nat} {f : Addr} {fd : FuncData} (F : Fun K "_law_draw" "_law_draw" s_law_draw f fd) (T : Txt mg) (CT : CTs K mg fa) 
    (hS : ∀ xs sto Q, xs.length = 2 → S xs sto Q → w_law_draw fa  { nx := fun _ st' => Q .non st', rt := Q } (startP ["_law_deck_here", "_law_many", "_law_digit", "_law_far"] xs) sto) : FnG P w K mg base (k + 1) f fd ["_law_deck_here", "_law_many"] (spOf K 2 S) :=
  fn_ok F sc_law_draw rfl (fun cdv A outer s H G =>
    (ds_cons (ds_if (dt_cmp dop_gt (d_ix (dv 0 rfl v_law_draw_0 nb__law_deck_here nc__law_deck_here) d_int) d_int (mark_no rfl)) (ds_cons (ds_set (i := 2) sc_law_draw.nd rfl l_law_draw_2 (d_op dop_mod (d_ix (dv 0 rfl v_law_draw_0 nb__law_deck_here nc__law_deck_here) d_int) (dv 1 rfl v_law_draw_1 nb__law_many nc__law_many)) (by exact swaps_no rfl) (Or.inl rfl))
    (ds_cons (ds_asg (d_op dop_fdiv (d_ix (dv 0 rfl v_law_draw_0 nb__law_deck_here nc__law_deck_here) d_int) (dv 1 rfl v_law_draw_1 nb__law_many nc__law_many)) (dg_ix (dv 0 rfl v_law_draw_0 nb__law_deck_here nc__law_deck_here) d_int))
    (ds_one (ds_ret (dv 2 rfl v_law_draw_2 nb__law_digit nc__law_digit))))) ds_nil)
    (ds_cons (ds_asg (d_op (dop_add false) (d_ix (dv 0 rfl v_law_draw_0 nb__law_deck_here nc__law_deck_here) d_int) d_int) (dg_ix (dv 0 rfl v_law_draw_0 nb__law_deck_here nc__law_deck_here) d_int))
    (ds_cons (ds_set (i := 3) sc_law_draw.nd rfl l_law_draw_3 (d_op (dop_add false) (d_op (dop_add false) (d_ix (dv 0 rfl v_law_draw_0 nb__law_deck_here nc__law_deck_here) d_int) (d_op dop_mul (d_op dop_mul d_int (d_ix (dv 0 rfl v_law_draw_0 nb__law_deck_here nc__law_deck_here) d_int)) (d_ix (dv 0 rfl v_law_draw_0 nb__law_deck_here nc__law_deck_here) d_int))) d_int) (by exact swaps_no rfl) (Or.inl rfl))
    (ds_cons (ds_set (i := 3) sc_law_draw.nd rfl l_law_draw_3 (d_op dop_mod (d_op dop_mul (dv 3 rfl v_law_draw_3 nb__law_far nc__law_far) d_int) d_int) (by exact swaps_no rfl) (Or.inl rfl))
    (ds_cons (ds_set (i := 3) sc_law_draw.nd rfl l_law_draw_3 (d_op dop_mod (d_op (dop_add false) (d_op (dop_add false) (d_op dop_mul (dv 3 rfl v_law_draw_3 nb__law_far nc__law_far) (dv 3 rfl v_law_draw_3 nb__law_far nc__law_far)) (d_op dop_mul d_int (dv 3 rfl v_law_draw_3 nb__law_far nc__law_far))) (d_ix (dv 0 rfl v_law_draw_0 nb__law_deck_here nc__law_deck_here) d_int)) d_int) (by exact swaps_no rfl) (Or.inl rfl))
    (ds_one (ds_ret (d_op dop_mod (d_op dop_fdiv (d_op dop_mod (d_op (dop_add false) (d_op dop_mul (dv 3 rfl v_law_draw_3 nb__law_far nc__law_far) d_int) (d_ix (dv 0 rfl v_law_draw_0 nb__law_deck_here nc__law_deck_here) d_int)) d_int) d_int) (dv 1 rfl v_law_draw_1 nb__law_many nc__law_many)))))))))) hS
abbrev s_law_number : Stmt := top 24
theorem sc_law_number : FnScope ["_law_deck_here", "_law_some"] ["_law_deck_here"] (defScope s_law_number) := ⟨rfl, rfl, rfl, by decide +kernel, rfl, by decide +kernel, by decide +kernel⟩
theorem l_law_number_1 : Loc (defScope s_law_number) "_law_some" := Or.inl (by decide +kernel)
theorem v_law_number_1 : Vis (defScope s_law_number) "_law_some" := Or.inl (by decide +kernel)
theorem v_law_number_0 : Vis (defScope s_law_number) "_law_deck_here" := Or.inl (by decide +kernel)
theorem g_law_number__law_draw : (defScope s_law_number).names.lookup ("_law_draw" : Str) = some NameKind.globalImplicit := by decide +kernel
def w_law_number (fa : Nat → Addr) (S_law_draw : Spc) : WS :=
  (sSeq (sAsg (wLst false (wCons (wC (.int 0)) (wCons (wC (.int 0)) (wCons (wC (.int 1)) (wCons (wC (.int 1)) (wCons (wC (.int 2)) (wCons (wC (.int 9)) (wCons (wC (.int 10)) (wCons (wC (.int 99)) wNil))))))))) (gNm 1))
  (sRet (wOp ixR (wOp (addR false) (wVar 1) (wLst false (wCons (wCall 2 S_law_draw (wCons (wVar 0) (wCons (wC (.int 6)) wNil))) (wCons (wCall 2 S_law_draw (wCons (wVar 0) (wCons (wC (.int 100)) wNil))) wNil)))) (wCall 2 S_law_draw (wCons (wVar 0) (wCons (wC (.int 10)) wNil))))))
def q_law_number (fa : Nat → Addr) : QS :=
  (.seq (.asg (.lst false (.cons (.cst (.int 0)) (.cons (.cst (.int 0)) (.cons (.cst (.int 1)) (.cons (.cst (.int 1)) (.cons (.cst (.int 2)) (.cons (.cst (.int 9)) (.cons (.cst (.int 10)) (.cons (.cst (.int 99)) .nil))))))))) (.nm 1)) (.ret (.op .ix (.op (.add false) (.var 1) (.lst false (.cons (.call 2 F_law_draw (.cons (.var 0) (.cons (.cst (.int 6)) .nil))) (.cons (.call 2 F_law_draw (.cons (.var 0) (.cons (.cst (.int 100)) .nil))) .nil)))) (.call 2 F_law_draw (.cons (.var 0) (.cons (.cst (.int 10)) .nil))))))
theorem qd_law_number {fa : Nat → Addr} (φ : Nat → Spc) : (q_law_number fa).den φ = w_law_number fa (φ F_law_draw) := rfl
theorem ok_law_number {fa : Nat → Addr} {S_law_draw : Spc} {S : Spc} {k : Nat} {f : Addr} {fd : FuncData} (F : Fun K "_law_number" "_law_number" s_law_number f fd) (T : Txt mg) (CT : CTs K mg fa) (C_law_draw : Callee P w K mg base k "_law_draw" 2 S_law_draw)
    (hS : ∀ xs sto Q, xs.length = 1 → S xs sto Q → w_law_number fa S_law_draw { nx := fun _ st' => Q .non st', rt := Q } (startP ["_law_deck_here", "_law_some"] xs) sto) : FnG P w K mg base (k + 1) f fd ["_law_deck_here"] (spOf K 1 S) :=
  fn_ok F sc_law_number rfl (fun cdv A outer s H G =>
    (ds_cons (ds_set (i := 1) sc_law_number.nd rfl l_law_number_1 (d_lst false (da_cons d_int (da_cons d_int (da_cons d_int (da_cons d_int (da_cons d_int (da_cons d_int (da_cons d_int (da_cons d_int da_nil))))))))) (by exact swaps_no rfl) (Or.inl rfl))
    (ds_one (ds_ret (d_ix (d_op (dop_add false) (dv 1 rfl v_law_number_1 nb__law_some nc__law_some) (d_lst false (da_cons (d_callC C_law_draw G (da_cons (dv 0 rfl v_law_number_0 nb__law_deck_here nc__law_deck_here) (da_cons d_int da_nil)) g_law_number__law_draw nb__law_draw) (da_cons (d_callC C_law_draw G (da_cons (dv 0 rfl v_law_number_0 nb__law_deck_here nc__law_deck_here) (da_cons d_int da_nil)) g_law_number__law_draw nb__law_draw) da_nil)))) (d_callC C_law_draw G (da_cons (dv 0 rfl v_law_number_0 nb__law_deck_here nc__law_deck_here) (da_cons d_int da_nil)) g_law_number__law_draw nb__law_draw)))))) hS
abbrev s_law_row : Stmt := top 25
theorem sc_law_row : FnScope ["_law_deck_here", "_law_size", "_law_k"] ["_law_deck_here", "_law_size"] (defScope s_law_row) := ⟨rfl, rfl, rfl, by decide +kernel, rfl, by decide +kernel, by decide +kernel⟩
theorem v_law_row_1 : Vis (defScope s_law_row) "_law_size" := Or.inl (by decide +kernel)
theorem g_law_row_range : (defScope s_law_row).names.lookup ("range" : Str) = some NameKind.globalImplicit := by decide +kernel
theorem g_law_row_tuple : (defScope s_law_row).names.lookup ("tuple" : Str) = some NameKind.globalImplicit := by decide +kernel
def w_law_row (fa : Nat → Addr) (S_law_number : Spc) : WS :=
  (sRet (wCa tupleR (wCons (wLc false (iRg1 (wCons (wVar 1) wNil)) (gNm 2) tYesP (wCall 1 S_law_number (wCons (wVar 0) wNil)) [2]) wNil)))
def q_law_row (fa : Nat → Addr) : QS :=
  (.ret (.ca .tuple (.cons (.lc false (.rg1 (.cons (.var 1) .nil)) (.nm 2) .yes (.call 1 F_law_number (.cons (.var 0) .nil)) [2]) .nil)))
theorem qd_law_row {fa : Nat → Addr} (φ : Nat → Spc) : (q_law_row fa).den φ = w_law_row fa (φ F_law_number) := rfl
theorem ok_law_row {fa : Nat → Addr} {S_law_number : Spc} {S : Spc} {k : Nat} {f : Addr} {fd : FuncData} (F : Fun K "_law_row" "_law_row" s_law_row f fd) (T : Txt mg) (CT : CTs K mg fa) (C_law_number : Callee P w K mg base k "_law_number" 1 S_law_number)
    (hS : ∀ xs sto Q, xs.length = 2 → S xs sto Q → w_law_row fa S_law_number { nx := fun _ st' => Q .non st', rt := Q } (startP ["_law_deck_here", "_law_size", "_law_k"] xs) sto) : FnG P w K mg base (k + 1) f fd ["_law_deck_here", "_law_size"] (spOf K 2 S) :=
  fn_ok F sc_law_row rfl (fun cdv A outer s H G =>
    (ds_one (ds_ret (d_callTy dca_tuple g_law_row_tuple T.m_tuple bt_tuple (da_cons (d_lc false G.calm sc_law_row.nd (di_rng1 g_law_row_range T.m_range (da_cons (dv 1 rfl v_law_row_1 nb__law_size nc__law_size) da_nil)) (blkOk_by (N := ["_law_deck_here", "_law_size", "_law_k"]) (sc := defScope s_law_row) (own := [("_law_k", 2)]) (by decide +kernel)) (fun _ _ _ _ _ => (dg_name (i := 2) sc_law_row.nd rfl (by first | exact loc_blk (Or.inl (by decide +kernel)) | exact loc_blk (Or.inr (by decide +kernel))) (by first | exact fl_blk (by decide +kernel) | exact fc_blk (by decide +kernel)))) (by decide) (fun _ _ _ _ _ => dts_nil) (fun _ _ _ _ _ => (d_callC C_law_number (xgb G) (da_cons (dv 0 rfl (by first | exact vis_blk (Or.inr (Or.inr (by decide +kernel))) | exact vis_blk (Or.inl (by decide +kernel)) | exact vis_blk (Or.inr (Or.inl (by decide +kernel)))) nb__law_deck_here nc__law_deck_here) da_nil) (gl_blk (by decide +kernel)) nb__law_number))) da_nil) nn_tuple nb_tuple)))) hS
abbrev s_law_square : Stmt := top 26
theorem sc_law_square : FnScope ["_law_deck_here", "_law_size", "_law_way", "_law_k", "_law_at"] ["_law_deck_here", "_law_size"] (defScope s_law_square) := ⟨rfl, rfl, rfl, by decide +kernel, rfl, by decide +kernel, by decide +kernel⟩
theorem v_law_square_0 : Vis (defScope s_law_square) "_law_deck_here" := Or.inr (Or.inl (by decide +kernel))
theorem g_law_square__law_draw : (defScope s_law_square).names.lookup ("_law_draw" : Str) = some NameKind.globalImplicit := by decide +kernel
theorem l_law_square_2 : Loc (defScope s_law_square) "_law_way" := Or.inl (by decide +kernel)
theorem v_law_square_2 : Vis (defScope s_law_square) "_law_way" := Or.inl (by decide +kernel)
theorem v_law_square_1 : Vis (defScope s_law_square) "_law_size" := Or.inr (Or.inl (by decide +kernel))
theorem g_law_square_range : (defScope s_law_square).names.lookup ("range" : Str) = some NameKind.globalImplicit := by decide +kernel
theorem g_law_square_tuple : (defScope s_law_square).names.lookup ("tuple" : Str) = some NameKind.globalImplicit := by decide +kernel
def w_law_square (fa : Nat → Addr) (S_law_draw S_law_row : Spc) : WS :=
  (sSeq (sAsg (wCall 2 S_law_draw (wCons (wVar 0) (wCons (wC (.int 5)) wNil))) (gNm 2))
  (sSeq (sIf (tValP (wOp eqA (wVar 2) (wC (.int 0)))) (sRet (wOp mulA (wTup (wCons (wOp mulA (wTup (wCons (wC (.int 0)) wNil)) (wVar 1)) wNil)) (wVar 1))) sNext)
  (sSeq (sIf (tValP (wOp eqA (wVar 2) (wC (.int 1)))) (sRet (wCa tupleR (wCons (wLc false (iRg1 (wCons (wVar 1) wNil)) (gNm 4) tYesP (wCa tupleR (wCons (wLc false (iRg1 (wCons (wVar 1) wNil)) (gNm 3) tYesP (wCa intR (wCons (wOp eqA (wVar 3) (wVar 4)) wNil)) [3]) wNil)) [4]) wNil))) sNext)
  (sRet (wCa tupleR (wCons (wLc false (iRg1 (wCons (wVar 1) wNil)) (gNm 3) tYesP (wCall 2 S_law_row (wCons (wVar 0) (wCons (wVar 1) wNil))) [3]) wNil))))))
def q_law_square (fa : Nat → Addr) : QS :=
  (.seq (.asg (.call 2 F_law_draw (.cons (.var 0) (.cons (.cst (.int 5)) .nil))) (.nm 2)) (.seq (.ite (.val (.op .eq (.var 2) (.cst (.int 0)))) (.ret (.op .mulT (.tup (.cons (.op .mulT (.tup (.cons (.cst (.int 0)) .nil)) (.var 1)) .nil)) (.var 1))) .next) (.seq (.ite (.val (.op .eq (.var 2) (.cst (.int 1)))) (.ret (.ca .tuple (.cons (.lc false (.rg1 (.cons (.var 1) .nil)) (.nm 4) .yes (.ca .tuple (.cons (.lc false (.rg1 (.cons (.var 1) .nil)) (.nm 3) .yes (.ca .int (.cons (.op .eq (.var 3) (.var 4)) .nil)) [3]) .nil)) [4]) .nil))) .next) (.ret (.ca .tuple (.cons (.lc false (.rg1 (.cons (.var 1) .nil)) (.nm 3) .yes (.call 2 F_law_row (.cons (.var 0) (.cons (.var 1) .nil))) [3]) .nil))))))
theorem qd_law_square {fa : Nat → Addr} (φ : Nat → Spc) : (q_law_square fa).den φ = w_law_square fa (φ F_law_draw) (φ F_law_row) := rfl
theorem ok_law_square {fa : Nat → Addr} {S_law_draw S_law_row : Spc} {S : Spc} {k : Nat} {f : Addr} {fd : FuncData} (F : Fun K "_law_square" "_law_square" s_law_square f fd) (T : Txt mg) (CT : CTs K mg fa) (C_law_draw : Callee P w K mg base k "_law_draw" 2 S_law_draw) (C_law_row : Callee P w K mg base k "_law_row" 2 S_law_row)
    (hS : ∀ xs sto Q, xs.length = 2 → S xs sto Q → w_law_square fa S_law_draw S_law_row { nx := fun _ st' => Q .non st', rt := Q } (startP ["_law_deck_here", "_law_size", "_law_way", "_law_k", "_law_at"] xs) sto) : FnG P w K mg base (k + 1) f fd ["_law_deck_here", "_law_size"] (spOf K 2 S) :=
  fn_ok F sc_law_square rfl (fun cdv A outer s H G =>
    (ds_cons (ds_set (i := 2) sc_law_square.nd rfl l_law_square_2 (d_callC C_law_draw G (da_cons (dv 0 rfl v_law_square_0 nb__law_deck_here nc__law_deck_here) (da_cons d_int da_nil)) g_law_square__law_draw nb__law_draw) (by exact swaps_no rfl) (Or.inl rfl))
    (ds_cons (ds_if (dt_cmp (dop_eqA G) (dv 2 rfl v_law_square_2 nb__law_way nc__law_way) d_int (mark_no rfl)) (ds_one (ds_ret (d_op dop_mulA (d_tup (da_cons (d_op dop_mulA (d_tup (da_cons d_int da_nil)) (dv 1 rfl v_law_square_1 nb__law_size nc__law_size)) da_nil)) (dv 1 rfl v_law_square_1 nb__law_size nc__law_size)))) ds_nil)
    (ds_cons (ds_if (dt_cmp (dop_eqA G) (dv 2 rfl v_law_square_2 nb__law_way nc__law_way) d_int (mark_no rfl)) (ds_one (ds_ret (d_callTy dca_tuple g_law_square_tuple T.m_tuple bt_tuple (da_cons (d_lc false G.calm sc_law_square.nd (di_rng1 g_law_square_range T.m_range (da_cons (dv 1 rfl v_law_square_1 nb__law_size nc__law_size) da_nil)) (blkOk_by (N := ["_law_deck_here", "_law_size", "_law_way", "_law_k", "_law_at"]) (sc := defScope s_law_square) (own := [("_law_at", 4)]) (by decide +kernel)) (fun _ _ _ _ _ => (dg_name (i := 4) sc_law_square.nd rfl (by first | exact loc_blk (Or.inl (by decide +kernel)) | exact loc_blk (Or.inr (by decide +kernel))) (by first | exact fl_blk (by decide +kernel) | exact fc_blk (by decide +kernel)))) (by decide) (fun _ _ _ _ _ => dts_nil) (fun _ _ _ _ _ => (d_callTy dca_tuple (gl_blk (by decide +kernel)) T.m_tuple bt_tuple (da_cons (d_lc false (xgb G).calm sc_law_square.nd (di_rng1 (gl_blk (by decide +kernel)) T.m_range (da_cons (dv 1 rfl (by first | exact vis_blk (Or.inr (Or.inr (by decide +kernel))) | exact vis_blk (Or.inl (by decide +kernel)) | exact vis_blk (Or.inr (Or.inl (by decide +kernel)))) nb__law_size nc__law_size) da_nil)) (blk_in (N := ["_law_deck_here", "_law_size", "_law_way", "_law_k", "_law_at"]) (own := [("_law_k", 3)]) (by decide +kernel)) (fun _ _ _ _ _ => (dg_name (i := 3) sc_law_square.nd rfl (by first | exact loc_blk (Or.inl (by decide +kernel)) | exact loc_blk (Or.inr (by decide +kernel))) (by first | exact fl_blk (by decide +kernel) | exact fc_blk (by decide +kernel)))) (by decide) (fun _ _ _ _ _ => dts_nil) (fun _ _ _ _ _ => (d_callTy dca_int (gl_blk (by decide +kernel)) T.m_int bt_int (da_cons (d_cmp (dop_eqA (xgb (xgb G))) (dv 3 rfl (by first | exact vis_blk (Or.inl (by decide +kernel)) | exact vis_blk (Or.inr (Or.inl (by decide +kernel))) | exact vis_blk (Or.inr (Or.inr (by decide +kernel)))) nb__law_k nc__law_k) (dv 4 rfl (by first | exact vis_blk (Or.inr (Or.inr (by decide +kernel))) | exact vis_blk (Or.inl (by decide +kernel)) | exact vis_blk (Or.inr (Or.inl (by decide +kernel)))) nb__law_at nc__law_at) (mark_no rfl)) da_nil) nn_int nb_int))) da_nil) nn_tuple nb_tuple))) da_nil) nn_tuple nb_tuple))) ds_nil)
    (ds_one (ds_ret (d_callTy dca_tuple g_law_square_tuple T.m_tuple bt_tuple (da_cons (d_lc false G.calm sc_law_square.nd (di_rng1 g_law_square_range T.m_range (da_cons (dv 1 rfl v_law_square_1 nb__law_size nc__law_size) da_nil)) (blkOk_by (N := ["_law_deck_here", "_law_size", "_law_way", "_law_k", "_law_at"]) (sc := defScope s_law_square) (own := [("_law_k", 3)]) (by decide +kernel)) (fun _ _ _ _ _ => (dg_name (i := 3) sc_law_square.nd rfl (by first | exact loc_blk (Or.inl (by decide +kernel)) | exact loc_blk (Or.inr (by decide +kernel))) (by first | exact fl_blk (by decide +kernel) | exact fc_blk (by decide +kernel)))) (by decide) (fun _ _ _ _ _ => dts_nil) (fun _ _ _ _ _ => (d_callC C_law_row (xgb G) (da_cons (dv 0 rfl (by first | exact vis_blk (Or.inr (Or.inr (by decide +kernel))) | exact vis_blk (Or.inl (by decide +kernel)) | exact vis_blk (Or.inr (Or.inl (by decide +kernel)))) nb__law_deck_here nc__law_deck_here) (da_cons (dv 1 rfl (by first | exact vis_blk (Or.inr (Or.inr (by decide +kernel))) | exact vis_blk (Or.inl (by decide +kernel)) | exact vis_blk (Or.inr (Or.inl (by decide +kernel)))) nb__law_size nc__law_size) da_nil)) (gl_blk (by decide +kernel)) nb__law_row))) da_nil) nn_tuple nb_tuple))))))) hS
abbrev s_law_words : Stmt := top 27
theorem sc_law_words : FnScope ["_law_deck_here", "_law_many", "_law_letters", "_law_way", "_law_first", "_law_k", "_law_word", "_law_at", "_law_found", "_law_sign"] ["_law_deck_here", "_law_many"] (defScope s_law_words) := ⟨rfl, rfl, rfl, by decide +kernel, rfl, by decide +kernel, by decide +kernel⟩
theorem l_law_words_2 : Loc (defScope s_law_words) "_law_letters" := Or.inr (by decide +kernel)
theorem v_law_words_0 : Vis (defScope s_law_words) "_law_deck_here" := Or.inr (Or.inl (by decide +kernel))
theorem g_law_words__law_draw : (defScope s_law_words).names.lookup ("_law_draw" : Str) = some NameKind.globalImplicit := by decide +kernel
theorem l_law_words_3 : Loc (defScope s_law_words) "_law_way" := Or.inl (by decide +kernel)
theorem l_law_words_4 : Loc (defScope s_law_words) "_law_first" := Or.inr (by decide +kernel)
theorem g_law_words_range : (defScope s_law_words).names.lookup ("range" : Str) = some NameKind.globalImplicit := by decide +kernel
theorem l_law_words_6 : Loc (defScope s_law_words) "_law_word" := Or.inr (by decide +kernel)
theorem v_law_words_3 : Vis (defScope s_law_words) "_law_way" := Or.inl (by decide +kernel)
theorem v_law_words_1 : Vis (defScope s_law_words) "_law_many" := Or.inl (by decide +kernel)
theorem v_law_words_6 : Vis (defScope s_law_words) "_law_word" := Or.inr (Or.inl (by decide +kernel))
theorem g_law_words_len : (defScope s_law_words).names.lookup ("len" : Str) = some NameKind.globalImplicit := by decide +kernel
theorem l_law_words_7 : Loc (defScope s_law_words) "_law_at" := Or.inl (by decide +kernel)
theorem l_law_words_8 : Loc (defScope s_law_words) "_law_found" := Or.inl (by decide +kernel)
theorem l_law_words_5 : Loc (defScope s_law_words) "_law_k" := Or.inl (by decide +kernel)
theorem v_law_words_7 : Vis (defScope s_law_words) "_law_at" := Or.inl (by decide +kernel)
theorem v_law_words_8 : Vis (defScope s_law_words) "_law_found" := Or.inl (by decide +kernel)
def w_law_words (fa : Nat → Addr) (S_law_draw : Spc) : WS :=
  (sSeq (sAsg (wC (.str "abcdefghijklmnopqrstuvwxyz")) (gNm 2))
  (sSeq (sAsg (wCall 2 S_law_draw (wCons (wVar 0) (wCons (wC (.int 3)) wNil))) (gNm 3))
  (sSeq (sAsg (wCall 2 S_law_draw (wCons (wVar 0) (wCons (wC (.int 26)) wNil))) (gNm 4))
  (sSeq (sAsg (wLc true (iRg1 (wCons (wC (.int 6)) wNil)) (gNm 5) tYesP (wCall 2 S_law_draw (wCons (wVar 0) (wCons (wC (.int 26)) wNil))) [5]) (gNm 6))
  (sSeq (sIf (tValP (wOp eqA (wVar 3) (wC (.int 0)))) (sRet (wLc false (iRg1 (wCons (wVar 1) wNil)) (gNm 5) tYesP (wOp ixR (wVar 2) (wOp modR (wOp (addR false) (wVar 4) (wOp mulR (wC (.int 3)) (wVar 5))) (wC (.int 26)))) [5])) sNext)
  (sSeq (sIf (tAndP (tValP (wOp eqA (wVar 3) (wC (.int 1)))) (tValP (wOp ltR (wVar 1) (wC (.int 7))))) (sRet (wLc false (iRg1 (wCons (wVar 1) wNil)) (gNm 5) tYesP (wM "str" joinR (wC (.str "")) (wCons (wLc false (iVal (wSl false (wVar 6) oNo (oSo (wOp (addR false) (wVar 5) (wC (.int 1)))))) (gNm 9) tYesP (wOp ixR (wVar 2) (wVar 9)) [9]) wNil)) [5])) sNext)
  (sSeq (sAsg (wSl true (wVar 6) oNo (oSo (wOp (addR false) (wC (.int 1)) (wCall 2 S_law_draw (wCons (wVar 0) (wCons (wC (.int 6)) wNil)))))) (gNm 6))
  (sSeq (sAsg (wCall 2 S_law_draw (wCons (wVar 0) (wCons (wCa lenR (wCons (wVar 6) wNil)) wNil))) (gNm 7))
  (sSeq (sAsg (wLst true wNil) (gNm 8))
  (sSeq (sFor (iRg1 (wCons (wVar 1) wNil)) (gNm 5)
    (sSeq (sAsg (wOp modR (wOp (addR false) (wOp ixR (wVar 6) (wVar 7)) (wC (.int 1))) (wC (.int 26))) (gIx (wVar 6) (wVar 7)))
  (sDrop (wM "list" appendR (wVar 8) (wCons (wM "str" joinR (wC (.str "")) (wCons (wLc false (iVal (wVar 6)) (gNm 9) tYesP (wOp ixR (wVar 2) (wVar 9)) [9]) wNil)) wNil)))))
  (sRet (wVar 8))))))))))))
def q_law_words (fa : Nat → Addr) : QS :=
  (.seq (.asg (.cst (.str "abcdefghijklmnopqrstuvwxyz")) (.nm 2)) (.seq (.asg (.call 2 F_law_draw (.cons (.var 0) (.cons (.cst (.int 3)) .nil))) (.nm 3)) (.seq (.asg (.call 2 F_law_draw (.cons (.var 0) (.cons (.cst (.int 26)) .nil))) (.nm 4)) (.seq (.asg (.lc true (.rg1 (.cons (.cst (.int 6)) .nil)) (.nm 5) .yes (.call 2 F_law_draw (.cons (.var 0) (.cons (.cst (.int 26)) .nil))) [5]) (.nm 6)) (.seq (.ite (.val (.op .eq (.var 3) (.cst (.int 0)))) (.ret (.lc false (.rg1 (.cons (.var 1) .nil)) (.nm 5) .yes (.op .ix (.var 2) (.op .mod (.op (.add false) (.var 4) (.op .mul (.cst (.int 3)) (.var 5))) (.cst (.int 26)))) [5])) .next) (.seq (.ite (.and (.val (.op .eq (.var 3) (.cst (.int 1)))) (.val (.op .lt (.var 1) (.cst (.int 7))))) (.ret (.lc false (.rg1 (.cons (.var 1) .nil)) (.nm 5) .yes (.mt "str" .join (.cst (.str "")) (.cons (.lc false (.val (.sl false (.var 6) .no (.so (.op (.add false) (.var 5) (.cst (.int 1)))))) (.nm 9) .yes (.op .ix (.var 2) (.var 9)) [9]) .nil)) [5])) .next) (.seq (.asg (.sl true (.var 6) .no (.so (.op (.add false) (.cst (.int 1)) (.call 2 F_law_draw (.cons (.var 0) (.cons (.cst (.int 6)) .nil)))))) (.nm 6)) (.seq (.asg (.call 2 F_law_draw (.cons (.var 0) (.cons (.ca .len (.cons (.var 6) .nil)) .nil))) (.nm 7)) (.seq (.asg (.lst true .nil) (.nm 8)) (.seq (.for (.rg1 (.cons (.var 1) .nil)) (.nm 5) (.seq (.asg (.op .mod (.op (.add false) (.op .ix (.var 6) (.var 7)) (.cst (.int 1))) (.cst (.int 26))) (.ix (.var 6) (.var 7))) (.drop (.mt "list" .append (.var 8) (.cons (.mt "str" .join (.cst (.str "")) (.cons (.lc false (.val (.var 6)) (.nm 9) .yes (.op .ix (.var 2) (.var 9)) [9]) .nil)) .nil))))) (.ret (.var 8))))))))))))
theorem qd_law_words {fa : Nat → Addr} (φ : Nat → Spc) : (q_law_words fa).den φ = w_law_words fa (φ F_law_draw) := rfl
theorem ok_law_words {fa : Nat → Addr} {S_law_draw : Spc} {S : Spc} {k : Nat} {f : Addr} {fd : FuncData} (F : Fun K "_law_words" "_law_words" s_law_words f fd) (T : Txt mg) (CT : CTs K mg fa) (C_law_draw : Callee P w K mg base k "_law_draw" 2 S_law_draw)
    (hS : ∀ xs sto Q, xs.length = 2 → S xs sto Q → w_law_words fa S_law_draw { nx := fun _ st' => Q .non st', rt := Q } (startP ["_law_deck_here", "_law_many", "_law_letters", "_law_way", "_law_first", "_law_k", "_law_word", "_law_at", "_law_found", "_law_sign"] xs) sto) : FnG P w K mg base (k + 1) f fd ["_law_deck_here", "_law_many"] (spOf K 2 S) :=
  fn_ok F sc_law_words rfl (fun cdv A outer s H G =>
    (ds_cons (ds_set (i := 2) sc_law_words.nd rfl l_law_words_2 d_str (by exact swaps_no rfl) (Or.inl rfl))
    (ds_cons (ds_set (i := 3) sc_law_words.nd rfl l_law_words_3 (d_callC C_law_draw G (da_cons (dv 0 rfl v_law_words_0 nb__law_deck_here nc__law_deck_here) (da_cons d_int da_nil)) g_law_words__law_draw nb__law_draw) (by exact swaps_no rfl) (Or.inl rfl))
    (ds_cons (ds_set (i := 4) sc_law_words.nd rfl l_law_words_4 (d_callC C_law_draw G (da_cons (dv 0 rfl v_law_words_0 nb__law_deck_here nc__law_deck_here) (da_cons d_int da_nil)) g_law_words__law_draw nb__law_draw) (by exact swaps_no rfl) (Or.inl rfl))
    (ds_cons (ds_set (i := 6) sc_law_words.nd rfl l_law_words_6 (d_lc true G.calm sc_law_words.nd (di_rng1 g_law_words_range T.m_range (da_cons d_int da_nil)) (blkOk_by (N := ["_law_deck_here", "_law_many", "_law_letters", "_law_way", "_law_first", "_law_k", "_law_word", "_law_at", "_law_found", "_law_sign"]) (sc := defScope s_law_words) (own := [("_law_k", 5)]) (by decide +kernel)) (fun _ _ _ _ _ => (dg_name (i := 5) sc_law_words.nd rfl (by first | exact loc_blk (Or.inl (by decide +kernel)) | exact loc_blk (Or.inr (by decide +kernel))) (by first | exact fl_blk (by decide +kernel) | exact fc_blk (by decide +kernel)))) (by decide) (fun _ _ _ _ _ => dts_nil) (fun _ _ _ _ _ => (d_callC C_law_draw (xgb G) (da_cons (dv 0 rfl (by first | exact vis_blk (Or.inr (Or.inr (by decide +kernel))) | exact vis_blk (Or.inl (by decide +kernel)) | exact vis_blk (Or.inr (Or.inl (by decide +kernel)))) nb__law_deck_here nc__law_deck_here) (da_cons d_int da_nil)) (gl_blk (by decide +kernel)) nb__law_draw))) (by rfl) (Or.inl rfl))
    (ds_cons (ds_if (dt_cmp (dop_eqA G) (dv 3 rfl v_law_words_3 nb__law_way nc__law_way) d_int (mark_no rfl)) (ds_one (ds_ret (d_lc false G.calm sc_law_words.nd (di_rng1 g_law_words_range T.m_range (da_cons (dv 1 rfl v_law_words_1 nb__law_many nc__law_many) da_nil)) (blkOk_by (N := ["_law_deck_here", "_law_many", "_law_letters", "_law_way", "_law_first", "_law_k", "_law_word", "_law_at", "_law_found", "_law_sign"]) (sc := defScope s_law_words) (own := [("_law_k", 5)]) (by decide +kernel)) (fun _ _ _ _ _ => (dg_name (i := 5) sc_law_words.nd rfl (by first | exact loc_blk (Or.inl (by decide +kernel)) | exact loc_blk (Or.inr (by decide +kernel))) (by first | exact fl_blk (by decide +kernel) | exact fc_blk (by decide +kernel)))) (by decide) (fun _ _ _ _ _ => dts_nil) (fun _ _ _ _ _ => (d_ix (dv 2 rfl (by first | exact vis_blk (Or.inr (Or.inr (by decide +kernel))) | exact vis_blk (Or.inl (by decide +kernel)) | exact vis_blk (Or.inr (Or.inl (by decide +kernel)))) nb__law_letters nc__law_letters) (d_op dop_mod (d_op (dop_add false) (dv 4 rfl (by first | exact vis_blk (Or.inr (Or.inr (by decide +kernel))) | exact vis_blk (Or.inl (by decide +kernel)) | exact vis_blk (Or.inr (Or.inl (by decide +kernel)))) nb__law_first nc__law_first) (d_op dop_mul d_int (dv 5 rfl (by first | exact vis_blk (Or.inl (by decide +kernel)) | exact vis_blk (Or.inr (Or.inl (by decide +kernel))) | exact vis_blk (Or.inr (Or.inr (by decide +kernel)))) nb__law_k nc__law_k))) d_int)))))) ds_nil)
    (ds_cons (ds_if (dt_w (dw_and (dt_cmp (dop_eqA G) (dv 3 rfl v_law_words_3 nb__law_way nc__law_way) d_int (mark_no rfl)) (dw_and1 (dt_cmp dop_lt (dv 1 rfl v_law_words_1 nb__law_many nc__law_many) d_int (mark_no rfl))))) (ds_one (ds_ret (d_lc false G.calm sc_law_words.nd (di_rng1 g_law_words_range T.m_range (da_cons (dv 1 rfl v_law_words_1 nb__law_many nc__law_many) da_nil)) (blkOk_by (N := ["_law_deck_here", "_law_many", "_law_letters", "_law_way", "_law_first", "_law_k", "_law_word", "_law_at", "_law_found", "_law_sign"]) (sc := defScope s_law_words) (own := [("_law_k", 5)]) (by decide +kernel)) (fun _ _ _ _ _ => (dg_name (i := 5) sc_law_words.nd rfl (by first | exact loc_blk (Or.inl (by decide +kernel)) | exact loc_blk (Or.inr (by decide +kernel))) (by first | exact fl_blk (by decide +kernel) | exact fc_blk (by decide +kernel)))) (by decide) (fun _ _ _ _ _ => dts_nil) (fun _ _ _ _ _ => (d_m PySem.F.plainAttrs_str PySem.F.slot_str_join PySem.F.type_str_join dm_join d_str (da_cons (d_lc false (xgb G).calm sc_law_words.nd (di_val (d_slice false (dv 6 rfl (by first | exact vis_blk (Or.inr (Or.inr (by decide +kernel))) | exact vis_blk (Or.inl (by decide +kernel)) | exact vis_blk (Or.inr (Or.inl (by decide +kernel)))) nb__law_word nc__law_word) do_no (do_so (d_op (dop_add false) (dv 5 rfl (by first | exact vis_blk (Or.inl (by decide +kernel)) | exact vis_blk (Or.inr (Or.inl (by decide +kernel))) | exact vis_blk (Or.inr (Or.inr (by decide +kernel)))) nb__law_k nc__law_k) d_int)))) (blk_in (N := ["_law_deck_here", "_law_many", "_law_letters", "_law_way", "_law_first", "_law_k", "_law_word", "_law_at", "_law_found", "_law_sign"]) (own := [("_law_sign", 9)]) (by decide +kernel)) (fun _ _ _ _ _ => (dg_name (i := 9) sc_law_words.nd rfl (by first | exact loc_blk (Or.inl (by decide +kernel)) | exact loc_blk (Or.inr (by decide +kernel))) (by first | exact fl_blk (by decide +kernel) | exact fc_blk (by decide +kernel)))) (by decide) (fun _ _ _ _ _ => dts_nil) (fun _ _ _ _ _ => (d_ix (dv 2 rfl (by first | exact vis_blk (Or.inr (Or.inr (by decide +kernel))) | exact vis_blk (Or.inl (by decide +kernel)) | exact vis_blk (Or.inr (Or.inl (by decide +kernel)))) nb__law_letters nc__law_letters) (dv 9 rfl (by first | exact vis_blk (Or.inl (by decide +kernel)) | exact vis_blk (Or.inr (Or.inl (by decide +kernel))) | exact vis_blk (Or.inr (Or.inr (by decide +kernel)))) nb__law_sign nc__law_sign)))) da_nil)))))) ds_nil)
    (ds_cons (ds_set (i := 6) sc_law_words.nd rfl l_law_words_6 (d_slice true (dv 6 rfl v_law_words_6 nb__law_word nc__law_word) do_no (do_so (d_op (dop_add false) d_int (d_callC C_law_draw G (da_cons (dv 0 rfl v_law_words_0 nb__law_deck_here nc__law_deck_here) (da_cons d_int da_nil)) g_law_words__law_draw nb__law_draw)))) (by exact swaps_no rfl) (Or.inl rfl))
    (ds_cons (ds_set (i := 7) sc_law_words.nd rfl l_law_words_7 (d_callC C_law_draw G (da_cons (dv 0 rfl v_law_words_0 nb__law_deck_here nc__law_deck_here) (da_cons (d_callB dca_len g_law_words_len T.m_len bt_len (da_cons (dv 6 rfl v_law_words_6 nb__law_word nc__law_word) da_nil) nn_len nb_len) da_nil)) g_law_words__law_draw nb__law_draw) (by exact swaps_no rfl) (Or.inl rfl))
    (ds_cons (ds_set (i := 8) sc_law_words.nd rfl l_law_words_8 (d_lst true da_nil) (by exact swaps_no rfl) (Or.inl rfl))
    (ds_cons (ds_for PassesOwn.never G.calm (di_rng1 g_law_words_range T.m_range (da_cons (dv 1 rfl v_law_words_1 nb__law_many nc__law_many) da_nil)) (dg_name (i := 5) sc_law_words.nd rfl l_law_words_5 (Or.inl rfl)) (ds_cons (ds_asg (d_op dop_mod (d_op (dop_add false) (d_ix (dv 6 rfl v_law_words_6 nb__law_word nc__law_word) (dv 7 rfl v_law_words_7 nb__law_at nc__law_at)) d_int) d_int) (dg_ix (dv 6 rfl v_law_words_6 nb__law_word nc__law_word) (dv 7 rfl v_law_words_7 nb__law_at nc__law_at)))
    (ds_one (ds_expr (d_m PySem.F.plainAttrs_list PySem.F.slot_list_append PySem.F.type_list_append dm_append (dv 8 rfl v_law_words_8 nb__law_found nc__law_found) (da_cons (d_m PySem.F.plainAttrs_str PySem.F.slot_str_join PySem.F.type_str_join dm_join d_str (da_cons (d_lc false G.calm sc_law_words.nd (di_val (dv 6 rfl v_law_words_6 nb__law_word nc__law_word)) (blkOk_by (N := ["_law_deck_here", "_law_many", "_law_letters", "_law_way", "_law_first", "_law_k", "_law_word", "_law_at", "_law_found", "_law_sign"]) (sc := defScope s_law_words) (own := [("_law_sign", 9)]) (by decide +kernel)) (fun _ _ _ _ _ => (dg_name (i := 9) sc_law_words.nd rfl (by first | exact loc_blk (Or.inl (by decide +kernel)) | exact loc_blk (Or.inr (by decide +kernel))) (by first | exact fl_blk (by decide +kernel) | exact fc_blk (by decide +kernel)))) (by decide) (fun _ _ _ _ _ => dts_nil) (fun _ _ _ _ _ => (d_ix (dv 2 rfl (by first | exact vis_blk (Or.inr (Or.inr (by decide +kernel))) | exact vis_blk (Or.inl (by decide +kernel)) | exact vis_blk (Or.inr (Or.inl (by decide +kernel)))) nb__law_letters nc__law_letters) (dv 9 rfl (by first | exact vis_blk (Or.inl (by decide +kernel)) | exact vis_blk (Or.inr (Or.inl (by decide +kernel))) | exact vis_blk (Or.inr (Or.inr (by decide +kernel)))) nb__law_sign nc__law_sign)))) da_nil)) da_nil))))))
    (ds_one (ds_ret (dv 8 rfl v_law_words_8 nb__law_found nc__law_found)))))))))))))) hS
abbrev s_law_unknowns : Stmt := top 28
theorem sc_law_unknowns : FnScope ["_law_deck_here", "_law_many", "_law_word"] ["_law_deck_here", "_law_many"] (defScope s_law_unknowns) := ⟨rfl, rfl, rfl, by decide +kernel, rfl, by decide +kernel, by decide +kernel⟩
theorem v_law_unknowns_0 : Vis (defScope s_law_unknowns) "_law_deck_here" := Or.inl (by decide +kernel)
theorem v_law_unknowns_1 : Vis (defScope s_law_unknowns) "_law_many" := Or.inl (by decide +kernel)
theorem g_law_unknowns__law_words : (defScope s_law_unknowns).names.lookup ("_law_words" : Str) = some NameKind.globalImplicit := by decide +kernel
def w_law_unknowns (fa : Nat → Addr) (S_law_words : Spc) : WS :=
  (sRet (wLc false (iVal (wCall 2 S_law_words (wCons (wVar 0) (wCons (wVar 1) wNil)))) (gNm 2) tYesP (wOp (addR false) (wM "str" upperR (wSl false (wVar 2) oNo (oSo (wC (.int 1)))) wNil) (wSl false (wVar 2) (oSo (wC (.int 1))) oNo)) [2]))
def q_law_unknowns (fa : Nat → Addr) : QS :=
  (.ret (.lc false (.val (.call 2 F_law_words (.cons (.var 0) (.cons (.var 1) .nil)))) (.nm 2) .yes (.op (.add false) (.mt "str" .upper (.sl false (.var 2) .no (.so (.cst (.int 1)))) .nil) (.sl false (.var 2) (.so (.cst (.int 1))) .no)) [2]))
theorem qd_law_unknowns {fa : Nat → Addr} (φ : Nat → Spc) : (q_law_unknowns fa).den φ = w_law_unknowns fa (φ F_law_words) := rfl
theorem ok_law_unknowns {fa : Nat → Addr} {S_law_words : Spc} {S : Spc} {k : Nat} {f : Addr} {fd : FuncData} (F : Fun K "_law_unknowns" "_law_unknowns" s_law_unknowns f fd) (T : Txt mg) (CT : CTs K mg fa) (C_law_words : Callee P w K mg base k "_law_words" 2 S_law_words)
    (hS : ∀ xs sto Q, xs.length = 2 → S xs sto Q → w_law_unknowns fa S_law_words { nx := fun _ st' => Q .non st', rt := Q } (startP ["_law_deck_here", "_law_many", "_law_word"] xs) sto) : FnG P w K mg base (k + 1) f fd ["_law_deck_here", "_law_many"] (spOf K 2 S) :=
  fn_ok F sc_law_unknowns rfl (fun cdv A outer s H G =>
    (ds_one (ds_ret (d_lc false G.calm sc_law_unknowns.nd (di_val (d_callC C_law_words G (da_cons (dv 0 rfl v_law_unknowns_0 nb__law_deck_here nc__law_deck_here) (da_cons (dv 1 rfl v_law_unknowns_1 nb__law_many nc__law_many) da_nil)) g_law_unknowns__law_words nb__law_words)) (blkOk_by (N := ["_law_deck_here", "_law_many", "_law_word"]) (sc := defScope s_law_unknowns) (own := [("_law_word", 2)]) (by decide +kernel)) (fun _ _ _ _ _ => (dg_name (i := 2) sc_law_unknowns.nd rfl (by first | exact loc_blk (Or.inl (by decide +kernel)) | exact loc_blk (Or.inr (by decide +kernel))) (by first | exact fl_blk (by decide +kernel) | exact fc_blk (by decide +kernel)))) (by decide) (fun _ _ _ _ _ => dts_nil) (fun _ _ _ _ _ => (d_op (dop_add false) (d_m0 PySem.F.plainAttrs_str PySem.F.slot_str_upper PySem.F.type_str_upper dm_upper (d_slice false (dv 2 rfl (by first | exact vis_blk (Or.inl (by decide +kernel)) | exact vis_blk (Or.inr (Or.inl (by decide +kernel))) | exact vis_blk (Or.inr (Or.inr (by decide +kernel)))) nb__law_word nc__law_word) do_no (do_so d_int))) (d_slice false (dv 2 rfl (by first | exact vis_blk (Or.inl (by decide +kernel)) | exact vis_blk (Or.inr (Or.inl (by decide +kernel))) | exact vis_blk (Or.inr (Or.inr (by decide +kernel)))) nb__law_word nc__law_word) (do_so d_int) do_no))))))) hS
abbrev s_law_line : Stmt := top 29
theorem sc_law_line : FnScope ["_law_row_here", "_law_one"] ["_law_row_here"] (defScope s_law_line) := ⟨rfl, rfl, rfl, by decide +kernel, rfl, by decide +kernel, by decide +kernel⟩
theorem v_law_line_0 : Vis (defScope s_law_line) "_law_row_here" := Or.inl (by decide +kernel)
def w_law_line (fa : Nat → Addr) : WS :=
  (sRet (wM "str" joinR (wC (.str " ")) (wCons (wLc false (iVal (wVar 0)) (gNm 1) tYesP (wCa strR (wCons (wVar 1) wNil)) [1]) wNil)))
def q_law_line (fa : Nat → Addr) : QS :=
  (.ret (.mt "str" .join (.cst (.str " ")) (.cons (.lc false (.val (.var 0)) (.nm 1) .yes (.ca (.ext strR) (.cons (.var 1) .nil)) [1]) .nil)))
theorem qd_law_line {fa : Nat → Addr} (φ : Nat → Spc) : (q_law_line fa).den φ = w_law_line fa := rfl
theorem ok_law_line {fa : Nat → Addr} {S : Spc} {k : Nat} {f : Addr} {fd : FuncData} (F : Fun K "_law_line" "_law_line" s_law_line f fd) (T : Txt mg) (CT : CTs K mg fa) 
    (hS : ∀ xs sto Q, xs.length = 1 → S xs sto Q → w_law_line fa  { nx := fun _ st' => Q .non st', rt := Q } (startP ["_law_row_here", "_law_one"] xs) sto) : FnG P w K mg base (k + 1) f fd ["_law_row_here"] (spOf K 1 S) :=
  fn_ok F sc_law_line rfl (fun cdv A outer s H G =>
    (ds_one (ds_ret (d_m PySem.F.plainAttrs_str PySem.F.slot_str_join PySem.F.type_str_join dm_join d_str (da_cons (d_lc false G.calm sc_law_line.nd (di_val (dv 0 rfl v_law_line_0 nb__law_row_here nc__law_row_here)) (blkOk_by (N := ["_law_row_here", "_law_one"]) (sc := defScope s_law_line) (own := [("_law_one", 1)]) (by decide +kernel)) (fun _ _ _ _ _ => (dg_name (i := 1) sc_law_line.nd rfl (by first | exact loc_blk (Or.inl (by decide +kernel)) | exact loc_blk (Or.inr (by decide +kernel))) (by first | exact fl_blk (by decide +kernel) | exact fc_blk (by decide +kernel)))) (by decide) (fun _ _ _ _ _ => dts_nil) (fun _ _ _ _ _ => (d_callTy dca_str (gl_blk (by decide +kernel)) T.m_str bt_str (da_cons (dv 1 rfl (by first | exact vis_blk (Or.inl (by decide +kernel)) | exact vis_blk (Or.inr (Or.inl (by decide +kernel))) | exact vis_blk (Or.inr (Or.inr (by decide +kernel)))) nb__law_one nc__law_one) da_nil) nn_str nb_str))) da_nil))))) hS
abbrev s_law_text : Stmt := top 30
theorem sc_law_text : FnScope ["_law_row_here", "_law_some", "_law_found", "_law_unknown", "_law_square_here", "_law_line_here"] ["_law_row_here", "_law_some"] (defScope s_law_text) := ⟨rfl, rfl, rfl, by decide +kernel, rfl, by decide +kernel, by decide +kernel⟩
theorem v_law_text_0 : Vis (defScope s_law_text) "_law_row_here" := Or.inl (by decide +kernel)
theorem g_law_text__law_line : (defScope s_law_text).names.lookup ("_law_line" : Str) = some NameKind.globalImplicit := by decide +kernel
theorem l_law_text_2 : Loc (defScope s_law_text) "_law_found" := Or.inl (by decide +kernel)
theorem v_law_text_1 : Vis (defScope s_law_text) "_law_some" := Or.inl (by decide +kernel)
theorem l_law_text_4 : Loc (defScope s_law_text) "_law_square_here" := Or.inl (by decide +kernel)
theorem l_law_text_3 : Loc (defScope s_law_text) "_law_unknown" := Or.inl (by decide +kernel)
theorem v_law_text_2 : Vis (defScope s_law_text) "_law_found" := Or.inl (by decide +kernel)
theorem v_law_text_4 : Vis (defScope s_law_text) "_law_square_here" := Or.inl (by decide +kernel)
theorem v_law_text_3 : Vis (defScope s_law_text) "_law_unknown" := Or.inl (by decide +kernel)
def w_law_text (fa : Nat → Addr) (S_law_line : Spc) : WS :=
  (sSeq (sAsg (wOp (addR false) (wOp (addR false) (wC (.str "[")) (wCall 1 S_law_line (wCons (wVar 0) wNil))) (wC (.str "]"))) (gNm 2))
  (sSeq (sFor (iVal (wPq (wVar 1))) (gTp 2 (gCn (gNm 3) (gCn (gNm 4) gNl)))
    (sAsg (wOp (addR false) (wOp (addR false) (wOp (addR false) (wOp (addR false) (wVar 2) (wC (.str " + ["))) (wM "str" joinR (wC (.str ";")) (wCons (wLc false (iVal (wVar 4)) (gNm 5) tYesP (wCall 1 S_law_line (wCons (wVar 5) wNil)) [5]) wNil))) (wC (.str "]"))) (wVar 3)) (gNm 2)))
  (sRet (wVar 2))))
def q_law_text (fa : Nat → Addr) : QS :=
  (.seq (.asg (.op (.add false) (.op (.add false) (.cst (.str "[")) (.call 1 F_law_line (.cons (.var 0) .nil))) (.cst (.str "]"))) (.nm 2)) (.seq (.for (.val (.f1 wPq (.var 1))) (.tp 2 (.cons (.nm 3) (.cons (.nm 4) .nil))) (.asg (.op (.add false) (.op (.add false) (.op (.add false) (.op (.add false) (.var 2) (.cst (.str " + ["))) (.mt "str" .join (.cst (.str ";")) (.cons (.lc false (.val (.var 4)) (.nm 5) .yes (.call 1 F_law_line (.cons (.var 5) .nil)) [5]) .nil))) (.cst (.str "]"))) (.var 3)) (.nm 2))) (.ret (.var 2))))
theorem qd_law_text {fa : Nat → Addr} (φ : Nat → Spc) : (q_law_text fa).den φ = w_law_text fa (φ F_law_line) := rfl
theorem ok_law_text {fa : Nat → Addr} {S_law_line : Spc} {S : Spc} {k : Nat} {f : Addr} {fd : FuncData} (F : Fun K "_law_text" "_law_text" s_law_text f fd) (T : Txt mg) (CT : CTs K mg fa) (C_law_line : Callee P w K mg base k "_law_line" 1 S_law_line)
    (hS : ∀ xs sto Q, xs.length = 2 → S xs sto Q → w_law_text fa S_law_line { nx := fun _ st' => Q .non st', rt := Q } (startP ["_law_row_here", "_law_some", "_law_found", "_law_unknown", "_law_square_here", "_law_line_here"] xs) sto) : FnG P w K mg base (k + 1) f fd ["_law_row_here", "_law_some"] (spOf K 2 S) :=
  fn_ok F sc_law_text rfl (fun cdv A outer s H G =>
    (ds_cons (ds_set (i := 2) sc_law_text.nd rfl l_law_text_2 (d_op (dop_add false) (d_op (dop_add false) d_str (d_callC C_law_line G (da_cons (dv 0 rfl v_law_text_0 nb__law_row_here nc__law_row_here) da_nil) g_law_text__law_line nb__law_line)) d_str) (by exact swaps_no rfl) (Or.inl rfl))
    (ds_cons (ds_for PassesOwn.never G.calm (di_val (d_ptq (dv 1 rfl v_law_text_1 nb__law_some nc__law_some))) (dg_tup G.calm (dgs_cons (dg_name (i := 3) sc_law_text.nd rfl l_law_text_3 (Or.inl rfl)) (dgs_cons (dg_name (i := 4) sc_law_text.nd rfl l_law_text_4 (Or.inl rfl)) dgs_nil))) (ds_one (ds_set (i := 2) sc_law_text.nd rfl l_law_text_2 (d_op (dop_add false) (d_op (dop_add false) (d_op (dop_add false) (d_op (dop_add false) (dv 2 rfl v_law_text_2 nb__law_found nc__law_found) d_str) (d_m PySem.F.plainAttrs_str PySem.F.slot_str_join PySem.F.type_str_join dm_join d_str (da_cons (d_lc false G.calm sc_law_text.nd (di_val (dv 4 rfl v_law_text_4 nb__law_square_here nc__law_square_here)) (blkOk_by (N := ["_law_row_here", "_law_some", "_law_found", "_law_unknown", "_law_square_here", "_law_line_here"]) (sc := defScope s_law_text) (own := [("_law_line_here", 5)]) (by decide +kernel)) (fun _ _ _ _ _ => (dg_name (i := 5) sc_law_text.nd rfl (by first | exact loc_blk (Or.inl (by decide +kernel)) | exact loc_blk (Or.inr (by decide +kernel))) (by first | exact fl_blk (by decide +kernel) | exact fc_blk (by decide +kernel)))) (by decide) (fun _ _ _ _ _ => dts_nil) (fun _ _ _ _ _ => (d_callC C_law_line (xgb G) (da_cons (dv 5 rfl (by first | exact vis_blk (Or.inl (by decide +kernel)) | exact vis_blk (Or.inr (Or.inl (by decide +kernel))) | exact vis_blk (Or.inr (Or.inr (by decide +kernel)))) nb__law_line_here nc__law_line_here) da_nil) (gl_blk (by decide +kernel)) nb__law_line))) da_nil))) d_str) (dv 3 rfl v_law_text_3 nb__law_unknown nc__law_unknown)) (by exact swaps_no rfl) (Or.inl rfl))))
    (ds_one (ds_ret (dv 2 rfl v_law_text_2 nb__law_found nc__law_found)))))) hS
abbrev s_law_tuple : Stmt := top 31
theorem sc_law_tuple : FnScope ["_law_words_here"] ["_law_words_here"] (defScope s_law_tuple) := ⟨rfl, rfl, rfl, by decide +kernel, rfl, by decide +kernel, by decide +kernel⟩
theorem v_law_tuple_0 : Vis (defScope s_law_tuple) "_law_words_here" := Or.inl (by decide +kernel)
theorem g_law_tuple_len : (defScope s_law_tuple).names.lookup ("len" : Str) = some NameKind.globalImplicit := by decide +kernel
theorem g_law_tuple_int : (defScope s_law_tuple).names.lookup ("int" : Str) = some NameKind.globalImplicit := by decide +kernel
def w_law_tuple (fa : Nat → Addr) : WS :=
  (sRet (wOp (addR false) (wOp (addR false) (wOp (addR false) (wC (.str "(")) (wM "str" joinR (wC (.str ", ")) (wCons (wVar 0) wNil))) (wOp mulR (wC (.str ",")) (wCa intR (wCons (wOp eqA (wCa lenR (wCons (wVar 0) wNil)) (wC (.int 1))) wNil)))) (wC (.str ")"))))
def q_law_tuple (fa : Nat → Addr) : QS :=
  (.ret (.op (.add false) (.op (.add false) (.op (.add false) (.cst (.str "(")) (.mt "str" .join (.cst (.str ", ")) (.cons (.var 0) .nil))) (.op .mul (.cst (.str ",")) (.ca .int (.cons (.op .eq (.ca .len (.cons (.var 0) .nil)) (.cst (.int 1))) .nil)))) (.cst (.str ")"))))
theorem qd_law_tuple {fa : Nat → Addr} (φ : Nat → Spc) : (q_law_tuple fa).den φ = w_law_tuple fa := rfl
theorem ok_law_tuple {fa : Nat → Addr} {S : Spc} {k : Nat} {f : Addr} {fd : FuncData} (F : Fun K "_law_tuple" "_law_tuple" s_law_tuple f fd) (T : Txt mg) (CT : CTs K mg fa) 
    (hS : ∀ xs sto Q, xs.length = 1 → S xs sto Q → w_law_tuple fa  { nx := fun _ st' => Q .non st', rt := Q } (startP ["_law_words_here"] xs) sto) : FnG P w K mg base (k + 1) f fd ["_law_words_here"] (spOf K 1 S) :=
  fn_ok F sc_law_tuple rfl (fun cdv A outer s H G =>
    (ds_one (ds_ret (d_op (dop_add false) (d_op (dop_add false) (d_op (dop_add false) d_str (d_m PySem.F.plainAttrs_str PySem.F.slot_str_join PySem.F.type_str_join dm_join d_str (da_cons (dv 0 rfl v_law_tuple_0 nb__law_words_here nc__law_words_here) da_nil))) (d_op dop_mul d_str (d_callTy dca_int g_law_tuple_int T.m_int bt_int (da_cons (d_cmp (dop_eqA G) (d_callB dca_len g_law_tuple_len T.m_len bt_len (da_cons (dv 0 rfl v_law_tuple_0 nb__law_words_here nc__law_words_here) da_nil) nn_len nb_len) d_int (mark_no rfl)) da_nil) nn_int nb_int))) d_str)))) hS
abbrev s_law_program : Stmt := top 32
theorem sc_law_program : FnScope ["_law_row_here", "_law_some", "_law_parts", "_law_unknown", "_law_square_here", "_law_lines", "_law_line_here", "_law_one"] ["_law_row_here", "_law_some"] (defScope s_law_program) := ⟨rfl, rfl, rfl, by decide +kernel, rfl, by decide +kernel, by decide +kernel⟩
theorem l_law_program_2 : Loc (defScope s_law_program) "_law_parts" := Or.inl (by decide +kernel)
theorem v_law_program_1 : Vis (defScope s_law_program) "_law_some" := Or.inl (by decide +kernel)
theorem l_law_program_4 : Loc (defScope s_law_program) "_law_square_here" := Or.inl (by decide +kernel)
theorem l_law_program_3 : Loc (defScope s_law_program) "_law_unknown" := Or.inl (by decide +kernel)
theorem v_law_program_4 : Vis (defScope s_law_program) "_law_square_here" := Or.inl (by decide +kernel)
theorem o_law_program_5 : (defScope s_law_program).names.lookup ("_law_lines" : Str) = some NameKind.local := by decide +kernel
theorem v_law_program_2 : Vis (defScope s_law_program) "_law_parts" := Or.inl (by decide +kernel)
theorem v_law_program_3 : Vis (defScope s_law_program) "_law_unknown" := Or.inl (by decide +kernel)
theorem v_law_program_5 : Vis (defScope s_law_program) "_law_lines" := Or.inl (by decide +kernel)
theorem g_law_program__law_tuple : (defScope s_law_program).names.lookup ("_law_tuple" : Str) = some NameKind.globalImplicit := by decide +kernel
theorem v_law_program_0 : Vis (defScope s_law_program) "_law_row_here" := Or.inl (by decide +kernel)
def w_law_program (fa : Nat → Addr) (S_law_tuple : Spc) : WS :=
  (sSeq (sAsg (wLst true wNil) (gNm 2))
  (sSeq (sFor (iVal (wPq (wVar 1))) (gTp 2 (gCn (gNm 3) (gCn (gNm 4) gNl)))
    (sSeq (sAsg (wLc false (iVal (wVar 4)) (gNm 6) tYesP (wCall 1 S_law_tuple (wCons (wLc false (iVal (wVar 6)) (gNm 7) tYesP (wCa strR (wCons (wVar 7) wNil)) [7]) wNil)) [6]) (gNm 5))
  (sDrop (wM "list" appendR (wVar 2) (wCons (wOp (addR false) (wOp (addR false) (wOp (addR false) (wOp (addR false) (wC (.str "('")) (wVar 3)) (wC (.str "', "))) (wCall 1 S_law_tuple (wCons (wVar 5) wNil))) (wC (.str ")"))) wNil)))))
  (sRet (wOp (addR false) (wOp (addR false) (wOp (addR false) (wOp (addR false) (wC (.str "Form(")) (wCall 1 S_law_tuple (wCons (wLc false (iVal (wVar 0)) (gNm 7) tYesP (wCa strR (wCons (wVar 7) wNil)) [7]) wNil))) (wC (.str ", "))) (wCall 1 S_law_tuple (wCons (wVar 2) wNil))) (wC (.str ")"))))))
def q_law_program (fa : Nat → Addr) : QS :=
  (.seq (.asg (.lst true .nil) (.nm 2)) (.seq (.for (.val (.f1 wPq (.var 1))) (.tp 2 (.cons (.nm 3) (.cons (.nm 4) .nil))) (.seq (.asg (.lc false (.val (.var 4)) (.nm 6) .yes (.call 1 F_law_tuple (.cons (.lc false (.val (.var 6)) (.nm 7) .yes (.ca (.ext strR) (.cons (.var 7) .nil)) [7]) .nil)) [6]) (.nm 5)) (.drop (.mt "list" .append (.var 2) (.cons (.op (.add false) (.op (.add false) (.op (.add false) (.op (.add false) (.cst (.str "('")) (.var 3)) (.cst (.str "', "))) (.call 1 F_law_tuple (.cons (.var 5) .nil))) (.cst (.str ")"))) .nil))))) (.ret (.op (.add false) (.op (.add false) (.op (.add false) (.op (.add false) (.cst (.str "Form(")) (.call 1 F_law_tuple (.cons (.lc false (.val (.var 0)) (.nm 7) .yes (.ca (.ext strR) (.cons (.var 7) .nil)) [7]) .nil))) (.cst (.str ", "))) (.call 1 F_law_tuple (.cons (.var 2) .nil))) (.cst (.str ")"))))))
theorem qd_law_program {fa : Nat → Addr} (φ : Nat → Spc) : (q_law_program fa).den φ = w_law_program fa (φ F_law_tuple) := rfl
theorem ok_law_program {fa : Nat → Addr} {S_law_tuple : Spc} {S : Spc} {k : Nat} {f : Addr} {fd : FuncData} (F : Fun K "_law_program" "_law_program" s_law_program f fd) (T : Txt mg) (CT : CTs K mg fa) (C_law_tuple : Callee P w K mg base k "_law_tuple" 1 S_law_tuple)
    (hS : ∀ xs sto Q, xs.length = 2 → S xs sto Q → w_law_program fa S_law_tuple { nx := fun _ st' => Q .non st', rt := Q } (startP ["_law_row_here", "_law_some", "_law_parts", "_law_unknown", "_law_square_here", "_law_lines", "_law_line_here", "_law_one"] xs) sto) : FnG P w K mg base (k + 1) f fd ["_law_row_here", "_law_some"] (spOf K 2 S) :=
  fn_ok F sc_law_program rfl (fun cdv A outer s H G =>
    (ds_cons (ds_set (i := 2) sc_law_program.nd rfl l_law_program_2 (d_lst true da_nil) (by exact swaps_no rfl) (Or.inl rfl))
    (ds_cons (ds_for PassesOwn.never G.calm (di_val (d_ptq (dv 1 rfl v_law_program_1 nb__law_some nc__law_some))) (dg_tup G.calm (dgs_cons (dg_name (i := 3) sc_law_program.nd rfl l_law_program_3 (Or.inl rfl)) (dgs_cons (dg_name (i := 4) sc_law_program.nd rfl l_law_program_4 (Or.inl rfl)) dgs_nil))) (ds_cons (ds_setLc false (i := 5) G.calm sc_law_program.nd rfl o_law_program_5 (by rfl) (di_val (dv 4 rfl v_law_program_4 nb__law_square_here nc__law_square_here)) (blkOk_by (N := ["_law_row_here", "_law_some", "_law_parts", "_law_unknown", "_law_square_here", "_law_lines", "_law_line_here", "_law_one"]) (sc := defScope s_law_program) (own := [("_law_line_here", 6)]) (by decide +kernel)) (fun _ _ _ _ _ => (dg_name (i := 6) sc_law_program.nd rfl (by first | exact loc_blk (Or.inl (by decide +kernel)) | exact loc_blk (Or.inr (by decide +kernel))) (by first | exact fl_blk (by decide +kernel) | exact fc_blk (by decide +kernel)))) (by decide) (fun _ _ _ _ _ => dts_nil) (fun _ _ _ _ _ => (d_callC C_law_tuple (xgb G) (da_cons (d_lc false (xgb G).calm sc_law_program.nd (di_val (dv 6 rfl (by first | exact vis_blk (Or.inl (by decide +kernel)) | exact vis_blk (Or.inr (Or.inl (by decide +kernel))) | exact vis_blk (Or.inr (Or.inr (by decide +kernel)))) nb__law_line_here nc__law_line_here)) (blk_in (N := ["_law_row_here", "_law_some", "_law_parts", "_law_unknown", "_law_square_here", "_law_lines", "_law_line_here", "_law_one"]) (own := [("_law_one", 7)]) (by decide +kernel)) (fun _ _ _ _ _ => (dg_name (i := 7) sc_law_program.nd rfl (by first | exact loc_blk (Or.inl (by decide +kernel)) | exact loc_blk (Or.inr (by decide +kernel))) (by first | exact fl_blk (by decide +kernel) | exact fc_blk (by decide +kernel)))) (by decide) (fun _ _ _ _ _ => dts_nil) (fun _ _ _ _ _ => (d_callTy dca_str (gl_blk (by decide +kernel)) T.m_str bt_str (da_cons (dv 7 rfl (by first | exact vis_blk (Or.inl (by decide +kernel)) | exact vis_blk (Or.inr (Or.inl (by decide +kernel))) | exact vis_blk (Or.inr (Or.inr (by decide +kernel)))) nb__law_one nc__law_one) da_nil) nn_str nb_str))) da_nil) (gl_blk (by decide +kernel)) nb__law_tuple)))
    (ds_one (ds_expr (d_m PySem.F.plainAttrs_list PySem.F.slot_list_append PySem.F.type_list_append dm_append (dv 2 rfl v_law_program_2 nb__law_parts nc__law_parts) (da_cons (d_op (dop_add false) (d_op (dop_add false) (d_op (dop_add false) (d_op (dop_add false) d_str (dv 3 rfl v_law_program_3 nb__law_unknown nc__law_unknown)) d_str) (d_callC C_law_tuple G (da_cons (dv 5 rfl v_law_program_5 nb__law_lines nc__law_lines) da_nil) g_law_program__law_tuple nb__law_tuple)) d_str) da_nil))))))
    (ds_one (ds_ret (d_op (dop_add false) (d_op (dop_add false) (d_op (dop_add false) (d_op (dop_add false) d_str (d_callC C_law_tuple G (da_cons (d_lc false G.calm sc_law_program.nd (di_val (dv 0 rfl v_law_program_0 nb__law_row_here nc__law_row_here)) (blkOk_by (N := ["_law_row_here", "_law_some", "_law_parts", "_law_unknown", "_law_square_here", "_law_lines", "_law_line_here", "_law_one"]) (sc := defScope s_law_program) (own := [("_law_one", 7)]) (by decide +kernel)) (fun _ _ _ _ _ => (dg_name (i := 7) sc_law_program.nd rfl (by first | exact loc_blk (Or.inl (by decide +kernel)) | exact loc_blk (Or.inr (by decide +kernel))) (by first | exact fl_blk (by decide +kernel) | exact fc_blk (by decide +kernel)))) (by decide) (fun _ _ _ _ _ => dts_nil) (fun _ _ _ _ _ => (d_callTy dca_str (gl_blk (by decide +kernel)) T.m_str bt_str (da_cons (dv 7 rfl (by first | exact vis_blk (Or.inl (by decide +kernel)) | exact vis_blk (Or.inr (Or.inl (by decide +kernel))) | exact vis_blk (Or.inr (Or.inr (by decide +kernel)))) nb__law_one nc__law_one) da_nil) nn_str nb_str))) da_nil) g_law_program__law_tuple nb__law_tuple)) d_str) (d_callC C_law_tuple G (da_cons (dv 2 rfl v_law_program_2 nb__law_parts nc__law_parts) da_nil) g_law_program__law_tuple nb__law_tuple)) d_str)))))) hS
abbrev s_law_good : Stmt := top 33
theorem sc_law_good : FnScope ["_law_deck_here", "_law_size", "_law_some", "_law_unknown", "_law_square_here", "_law_line_here"] ["_law_deck_here"] (defScope s_law_good) := ⟨rfl, rfl, rfl, by decide +kernel, rfl, by decide +kernel, by decide +kernel⟩
theorem v_law_good_0 : Vis (defScope s_law_good) "_law_deck_here" := Or.inl (by decide +kernel)
theorem g_law_good__law_draw : (defScope s_law_good).names.lookup ("_law_draw" : Str) = some NameKind.globalImplicit := by decide +kernel
theorem l_law_good_1 : Loc (defScope s_law_good) "_law_size" := Or.inl (by decide +kernel)
theorem l_law_good_2 : Loc (defScope s_law_good) "_law_some" := Or.inl (by decide +kernel)
theorem g_law_good__law_unknowns : (defScope s_law_good).names.lookup ("_law_unknowns" : Str) = some NameKind.globalImplicit := by decide +kernel
theorem g_law_good_sorted : (defScope s_law_good).names.lookup ("sorted" : Str) = some NameKind.globalImplicit := by decide +kernel
theorem l_law_good_3 : Loc (defScope s_law_good) "_law_unknown" := Or.inl (by decide +kernel)
theorem v_law_good_1 : Vis (defScope s_law_good) "_law_size" := Or.inl (by decide +kernel)
theorem g_law_good__law_square : (defScope s_law_good).names.lookup ("_law_square" : Str) = some NameKind.globalImplicit := by decide +kernel
theorem l_law_good_4 : Loc (defScope s_law_good) "_law_square_here" := Or.inl (by decide +kernel)
theorem v_law_good_4 : Vis (defScope s_law_good) "_law_square_here" := Or.inl (by decide +kernel)
theorem g_law_good_sum : (defScope s_law_good).names.lookup ("sum" : Str) = some NameKind.globalImplicit := by decide +kernel
theorem v_law_good_2 : Vis (defScope s_law_good) "_law_some" := Or.inl (by decide +kernel)
theorem v_law_good_3 : Vis (defScope s_law_good) "_law_unknown" := Or.inl (by decide +kernel)
theorem g_law_good__law_row : (defScope s_law_good).names.lookup ("_law_row" : Str) = some NameKind.globalImplicit := by decide +kernel
theorem g_law_good_tuple : (defScope s_law_good).names.lookup ("tuple" : Str) = some NameKind.globalImplicit := by decide +kernel
def w_law_good (fa : Nat → Addr) (S_law_draw S_law_unknowns S_law_square S_law_row : Spc) : WS :=
  (sSeq (sAsg (wOp (addR false) (wC (.int 1)) (wCall 2 S_law_draw (wCons (wVar 0) (wCons (wC (.int 3)) wNil)))) (gNm 1))
  (sSeq (sAsg (wLst true wNil) (gNm 2))
  (sSeq (sFor (iVal (wCa (sortR false) (wCons (wCall 2 S_law_unknowns (wCons (wVar 0) (wCons (wCall 2 S_law_draw (wCons (wVar 0) (wCons (wC (.int 5)) wNil))) wNil))) wNil))) (gNm 3)
    (sSeq (sAsg (wCall 2 S_law_square (wCons (wVar 0) (wCons (wVar 1) wNil))) (gNm 4))
  (sIf (tValP (wOp gtR (wCa sumR (wCons (wLc false (iVal (wVar 4)) (gNm 5) tYesP (wCa sumTR (wCons (wVar 5) wNil)) [5]) wNil)) (wC (.int 0)))) (sDrop (wM "list" appendR (wVar 2) (wCons (wTup (wCons (wVar 3) (wCons (wVar 4) wNil))) wNil))) sNext)))
  (sRet (wTup (wCons (wCall 2 S_law_row (wCons (wVar 0) (wCons (wVar 1) wNil))) (wCons (wCa ptupleR (wCons (wVar 2) wNil)) wNil)))))))
def q_law_good (fa : Nat → Addr) : QS :=
  (.seq (.asg (.op (.add false) (.cst (.int 1)) (.call 2 F_law_draw (.cons (.var 0) (.cons (.cst (.int 3)) .nil)))) (.nm 1)) (.seq (.asg (.lst true .nil) (.nm 2)) (.seq (.for (.val (.ca (.sort false) (.cons (.call 2 F_law_unknowns (.cons (.var 0) (.cons (.call 2 F_law_draw (.cons (.var 0) (.cons (.cst (.int 5)) .nil))) .nil))) .nil))) (.nm 3) (.seq (.asg (.call 2 F_law_square (.cons (.var 0) (.cons (.var 1) .nil))) (.nm 4)) (.ite (.val (.op .gt (.ca .sum (.cons (.lc false (.val (.var 4)) (.nm 5) .yes (.ca (.ext sumTR) (.cons (.var 5) .nil)) [5]) .nil)) (.cst (.int 0)))) (.drop (.mt "list" .append (.var 2) (.cons (.tup (.cons (.var 3) (.cons (.var 4) .nil))) .nil))) .next))) (.ret (.tup (.cons (.call 2 F_law_row (.cons (.var 0) (.cons (.var 1) .nil))) (.cons (.ca (.ext ptupleR) (.cons (.var 2) .nil)) .nil)))))))
theorem qd_law_good {fa : Nat → Addr} (φ : Nat → Spc) : (q_law_good fa).den φ = w_law_good fa (φ F_law_draw) (φ F_law_unknowns) (φ F_law_square) (φ F_law_row) := rfl
theorem ok_law_good {fa : Nat → Addr} {S_law_draw S_law_unknowns S_law_square S_law_row : Spc} {S : Spc} {k : Nat} {f : Addr} {fd : FuncData} (F : Fun K "_law_good" "_law_good" s_law_good f fd) (T : Txt mg) (CT : CTs K mg fa) (C_law_draw : Callee P w K mg base k "_law_draw" 2 S_law_draw) (C_law_unknowns : Callee P w K mg base k "_law_unknowns" 2 S_law_unknowns) (C_law_square : Callee P w K mg base k "_law_square" 2 S_law_square) (C_law_row : Callee P w K mg base k "_law_row" 2 S_law_row)
    (hS : ∀ xs sto Q, xs.length = 1 → S xs sto Q → w_law_good fa S_law_draw S_law_unknowns S_law_square S_law_row { nx := fun _ st' => Q .non st', rt := Q } (startP ["_law_deck_here", "_law_size", "_law_some", "_law_unknown", "_law_square_here", "_law_line_here"] xs) sto) : FnG P w K mg base (k + 1) f fd ["_law_deck_here"] (spOf K 1 S) :=
  fn_ok F sc_law_good rfl (fun cdv A outer s H G =>
    (ds_cons (ds_set (i := 1) sc_law_good.nd rfl l_law_good_1 (d_op (dop_add false) d_int (d_callC C_law_draw G (da_cons (dv 0 rfl v_law_good_0 nb__law_deck_here nc__law_deck_here) (da_cons d_int da_nil)) g_law_good__law_draw nb__law_draw)) (by exact swaps_no rfl) (Or.inl rfl))
    (ds_cons (ds_set (i := 2) sc_law_good.nd rfl l_law_good_2 (d_lst true da_nil) (by exact swaps_no rfl) (Or.inl rfl))
    (ds_cons (ds_for PassesOwn.never G.calm (di_val (d_callB (dca_sort false G) g_law_good_sorted T.m_sorted bt_sorted (da_cons (d_callC C_law_unknowns G (da_cons (dv 0 rfl v_law_good_0 nb__law_deck_here nc__law_deck_here) (da_cons (d_callC C_law_draw G (da_cons (dv 0 rfl v_law_good_0 nb__law_deck_here nc__law_deck_here) (da_cons d_int da_nil)) g_law_good__law_draw nb__law_draw) da_nil)) g_law_good__law_unknowns nb__law_unknowns) da_nil) nn_sorted nb_sorted)) (dg_name (i := 3) sc_law_good.nd rfl l_law_good_3 (Or.inl rfl)) (ds_cons (ds_set (i := 4) sc_law_good.nd rfl l_law_good_4 (d_callC C_law_square G (da_cons (dv 0 rfl v_law_good_0 nb__law_deck_here nc__law_deck_here) (da_cons (dv 1 rfl v_law_good_1 nb__law_size nc__law_size) da_nil)) g_law_good__law_square nb__law_square) (by exact swaps_no rfl) (Or.inl rfl))
    (ds_one (ds_if (dt_cmp dop_gt (d_callB (dca_sum G.calm) g_law_good_sum T.m_sum bt_sum (da_cons (d_lc false G.calm sc_law_good.nd (di_val (dv 4 rfl v_law_good_4 nb__law_square_here nc__law_square_here)) (blkOk_by (N := ["_law_deck_here", "_law_size", "_law_some", "_law_unknown", "_law_square_here", "_law_line_here"]) (sc := defScope s_law_good) (own := [("_law_line_here", 5)]) (by decide +kernel)) (fun _ _ _ _ _ => (dg_name (i := 5) sc_law_good.nd rfl (by first | exact loc_blk (Or.inl (by decide +kernel)) | exact loc_blk (Or.inr (by decide +kernel))) (by first | exact fl_blk (by decide +kernel) | exact fc_blk (by decide +kernel)))) (by decide) (fun _ _ _ _ _ => dts_nil) (fun _ _ _ _ _ => (d_callB (dca_sumT (xgb G).calm) (gl_blk (by decide +kernel)) T.m_sum bt_sum (da_cons (dv 5 rfl (by first | exact vis_blk (Or.inl (by decide +kernel)) | exact vis_blk (Or.inr (Or.inl (by decide +kernel))) | exact vis_blk (Or.inr (Or.inr (by decide +kernel)))) nb__law_line_here nc__law_line_here) da_nil) nn_sum nb_sum))) da_nil) nn_sum nb_sum) d_int (mark_no rfl)) (ds_one (ds_expr (d_m PySem.F.plainAttrs_list PySem.F.slot_list_append PySem.F.type_list_append dm_append (dv 2 rfl v_law_good_2 nb__law_some nc__law_some) (da_cons (d_tup (da_cons (dv 3 rfl v_law_good_3 nb__law_unknown nc__law_unknown) (da_cons (dv 4 rfl v_law_good_4 nb__law_square_here nc__law_square_here) da_nil))) da_nil)))) ds_nil))))
    (ds_one (ds_ret (d_tup (da_cons (d_callC C_law_row G (da_cons (dv 0 rfl v_law_good_0 nb__law_deck_here nc__law_deck_here) (da_cons (dv 1 rfl v_law_good_1 nb__law_size nc__law_size) da_nil)) g_law_good__law_row nb__law_row) (da_cons (d_callTy dca_ptuple g_law_good_tuple T.m_tuple bt_tuple (da_cons (dv 2 rfl v_law_good_2 nb__law_some nc__law_some) da_nil) nn_tuple nb_tuple) da_nil))))))))) hS
abbrev s_law_right : Stmt := top 34
theorem sc_law_right : FnScope ["_law_form", "_law_row_here", "_law_some", "_law_due"] ["_law_form", "_law_row_here", "_law_some"] (defScope s_law_right) := ⟨rfl, rfl, rfl, by decide +kernel, rfl, by decide +kernel, by decide +kernel⟩
theorem v_law_right_1 : Vis (defScope s_law_right) "_law_row_here" := Or.inl (by decide +kernel)
theorem v_law_right_2 : Vis (defScope s_law_right) "_law_some" := Or.inl (by decide +kernel)
theorem g_law_right__law_text : (defScope s_law_right).names.lookup ("_law_text" : Str) = some NameKind.globalImplicit := by decide +kernel
theorem g_law_right__law_program : (defScope s_law_right).names.lookup ("_law_program" : Str) = some NameKind.globalImplicit := by decide +kernel
theorem g_law_right_len : (defScope s_law_right).names.lookup ("len" : Str) = some NameKind.globalImplicit := by decide +kernel
theorem l_law_right_3 : Loc (defScope s_law_right) "_law_due" := Or.inl (by decide +kernel)
theorem v_law_right_0 : Vis (defScope s_law_right) "_law_form" := Or.inl (by decide +kernel)
theorem g_law_right_str : (defScope s_law_right).names.lookup ("str" : Str) = some NameKind.globalImplicit := by decide +kernel
theorem g_law_right_repr : (defScope s_law_right).names.lookup ("repr" : Str) = some NameKind.globalImplicit := by decide +kernel
theorem g_law_right_bool : (defScope s_law_right).names.lookup ("bool" : Str) = some NameKind.globalImplicit := by decide +kernel
theorem v_law_right_3 : Vis (defScope s_law_right) "_law_due" := Or.inl (by decide +kernel)
def w_law_right (fa : Nat → Addr) (S_law_text S_law_program S_Form___str__ S_Form___repr__ S_Form___len__ : Spc) : WS :=
  (sSeq (sAsg (wLst false (wCons (wCall 2 S_law_text (wCons (wVar 1) (wCons (wVar 2) wNil))) (wCons (wCall 2 S_law_program (wCons (wVar 1) (wCons (wVar 2) wNil))) (wCons (wCa lenR (wCons (wPq (wVar 2)) wNil)) (wCons (wOp neA (wPq (wVar 2)) (wTup wNil)) (wCons (wOp eqA (wPq (wVar 2)) (wTup wNil)) (wCons (wCall 2 S_law_text (wCons (wVar 1) (wCons (wVar 2) wNil))) wNil))))))) (gNm 3))
  (sSeq (sIf (tValP (wOp neA (wLst false (wCons (wAsS (wCall 1 S_Form___str__ (wCons (wSelf (fa 0) "__str__" (wVar 0)) wNil))) (wCons (wAsS (wCall 1 S_Form___repr__ (wCons (wSelf (fa 0) "__repr__" (wVar 0)) wNil))) (wCons (wAsL (wCall 1 S_Form___len__ (wCons (wSelf (fa 0) "__len__" (wVar 0)) wNil))) (wCons (wAsB1 false (wCall 1 S_Form___len__ (wCons (wSelf (fa 0) "__len__" (wVar 0)) wNil))) (wCons (wAsB1 true (wCall 1 S_Form___len__ (wCons (wSelf (fa 0) "__len__" (wVar 0)) wNil))) (wCons (wFmt (wCall 1 S_Form___str__ (wCons (wSelf (fa 0) "__str__" (wVar 0)) wNil))) wNil))))))) (wVar 3))) (sRet (wC (.bl false))) sNext)
  (sRet (wOp eqA (wCa (reprTLR (fa 0) "base" "parts" "Form(" ", " ")") (wCons (wTup (wCons (wVar 0) (wCons (wLst false (wCons (wVar 0) wNil)) wNil))) wNil)) (wOp (addR false) (wOp (addR false) (wOp (addR false) (wOp (addR false) (wC (.str "(")) (wOp ixR (wVar 3) (wC (.int 1)))) (wC (.str ", ["))) (wOp ixR (wVar 3) (wC (.int 1)))) (wC (.str "])")))))))
def q_law_right (fa : Nat → Addr) : QS :=
  (.seq (.asg (.lst false (.cons (.call 2 F_law_text (.cons (.var 1) (.cons (.var 2) .nil))) (.cons (.call 2 F_law_program (.cons (.var 1) (.cons (.var 2) .nil))) (.cons (.ca .len (.cons (.f1 wPq (.var 2)) .nil)) (.cons (.op .ne (.f1 wPq (.var 2)) (.tup .nil)) (.cons (.op .eq (.f1 wPq (.var 2)) (.tup .nil)) (.cons (.call 2 F_law_text (.cons (.var 1) (.cons (.var 2) .nil))) .nil))))))) (.nm 3)) (.seq (.ite (.val (.op .ne (.lst false (.cons (.f1 wAsS (.call 1 F_Form___str__ (.cons (.f1 (wSelf (fa 0) "__str__") (.var 0)) .nil))) (.cons (.f1 wAsS (.call 1 F_Form___repr__ (.cons (.f1 (wSelf (fa 0) "__repr__") (.var 0)) .nil))) (.cons (.f1 wAsL (.call 1 F_Form___len__ (.cons (.f1 (wSelf (fa 0) "__len__") (.var 0)) .nil))) (.cons (.f1 (wAsB1 false) (.call 1 F_Form___len__ (.cons (.f1 (wSelf (fa 0) "__len__") (.var 0)) .nil))) (.cons (.f1 (wAsB1 true) (.call 1 F_Form___len__ (.cons (.f1 (wSelf (fa 0) "__len__") (.var 0)) .nil))) (.cons (.f1 wFmt (.call 1 F_Form___str__ (.cons (.f1 (wSelf (fa 0) "__str__") (.var 0)) .nil))) .nil))))))) (.var 3))) (.ret (.cst (.bl false))) .next) (.ret (.op .eq (.ca (.ext (reprTLR (fa 0) "base" "parts" "Form(" ", " ")")) (.cons (.tup (.cons (.var 0) (.cons (.lst false (.cons (.var 0) .nil)) .nil))) .nil)) (.op (.add false) (.op (.add false) (.op (.add false) (.op (.add false) (.cst (.str "(")) (.op .ix (.var 3) (.cst (.int 1)))) (.cst (.str ", ["))) (.op .ix (.var 3) (.cst (.int 1)))) (.cst (.str "])")))))))
theorem qd_law_right {fa : Nat → Addr} (φ : Nat → Spc) : (q_law_right fa).den φ = w_law_right fa (φ F_law_text) (φ F_law_program) (φ F_Form___str__) (φ F_Form___repr__) (φ F_Form___len__) := rfl
theorem ok_law_right {fa : Nat → Addr} {S_law_text S_law_program S_Form___str__ S_Form___repr__ S_Form___len__ : Spc} {S : Spc} {k : Nat} {f : Addr} {fd : FuncData} (F : Fun K "_law_right" "_law_right" s_law_right f fd) (T : Txt mg) (CT : CTs K mg fa) (C_law_text : Callee P w K mg base k "_law_text" 2 S_law_text) (C_law_program : Callee P w K mg base k "_law_program" 2 S_law_program) (C_Form___str__ : MethC P w K mg base k (fa 0) "__str__" 1 S_Form___str__) (C_Form___repr__ : MethC P w K mg base k (fa 0) "__repr__" 1 S_Form___repr__) (C_Form___len__ : MethC P w K mg base k (fa 0) "__len__" 1 S_Form___len__)
    (hS : ∀ xs sto Q, xs.length = 3 → S xs sto Q → w_law_right fa S_law_text S_law_program S_Form___str__ S_Form___repr__ S_Form___len__ { nx := fun _ st' => Q .non st', rt := Q } (startP ["_law_form", "_law_row_here", "_law_some", "_law_due"] xs) sto) : FnG P w K mg base (k + 1) f fd ["_law_form", "_law_row_here", "_law_some"] (spOf K 3 S) :=
  fn_ok F sc_law_right rfl (fun cdv A outer s H G =>
    (ds_cons (ds_set (i := 3) sc_law_right.nd rfl l_law_right_3 (d_lst false (da_cons (d_callC C_law_text G (da_cons (dv 1 rfl v_law_right_1 nb__law_row_here nc__law_row_here) (da_cons (dv 2 rfl v_law_right_2 nb__law_some nc__law_some) da_nil)) g_law_right__law_text nb__law_text) (da_cons (d_callC C_law_program G (da_cons (dv 1 rfl v_law_right_1 nb__law_row_here nc__law_row_here) (da_cons (dv 2 rfl v_law_right_2 nb__law_some nc__law_some) da_nil)) g_law_right__law_program nb__law_program) (da_cons (d_callB dca_len g_law_right_len T.m_len bt_len (da_cons (d_ptq (dv 2 rfl v_law_right_2 nb__law_some nc__law_some)) da_nil) nn_len nb_len) (da_cons (d_cmp (dop_neA G) (d_ptq (dv 2 rfl v_law_right_2 nb__law_some nc__law_some)) (d_tup da_nil) (mark_no rfl)) (da_cons (d_cmp (dop_eqA G) (d_ptq (dv 2 rfl v_law_right_2 nb__law_some nc__law_some)) (d_tup da_nil) (mark_no rfl)) (da_cons (d_callC C_law_text G (da_cons (dv 1 rfl v_law_right_1 nb__law_row_here nc__law_row_here) (da_cons (dv 2 rfl v_law_right_2 nb__law_some nc__law_some) da_nil)) g_law_right__law_text nb__law_text) da_nil))))))) (by exact swaps_no rfl) (Or.inl rfl))
    (ds_cons (ds_if (dt_cmp (dop_neA G) (d_lst false (da_cons (d_strO C_Form___str__ G g_law_right_str T.m_str bt_str (dv 0 rfl v_law_right_0 nb__law_form nc__law_form)) (da_cons (d_reprI C_Form___repr__ G g_law_right_repr T.m_repr bt_repr (dv 0 rfl v_law_right_0 nb__law_form nc__law_form)) (da_cons (d_lenO C_Form___len__ G g_law_right_len T.m_len bt_len (dv 0 rfl v_law_right_0 nb__law_form nc__law_form)) (da_cons (d_boolO CT.st_Form C_Form___len__ G g_law_right_bool T.m_bool bt_bool (dv 0 rfl v_law_right_0 nb__law_form nc__law_form)) (da_cons (d_notO CT.st_Form C_Form___len__ G (dv 0 rfl v_law_right_0 nb__law_form nc__law_form)) (da_cons (d_fs0 (d_fmtO CT.st_Form C_Form___str__ G (dv 0 rfl v_law_right_0 nb__law_form nc__law_form))) da_nil))))))) (dv 3 rfl v_law_right_3 nb__law_due nc__law_due) (mark_no rfl)) (ds_one (ds_ret d_bl)) ds_nil)
    (ds_one (ds_ret (d_cmp (dop_eqA G) (d_callB (dca_reprTL CT.rp_Form (by decide +kernel) G) g_law_right_repr T.m_repr bt_repr (da_cons (d_tup (da_cons (dv 0 rfl v_law_right_0 nb__law_form nc__law_form) (da_cons (d_lst false (da_cons (dv 0 rfl v_law_right_0 nb__law_form nc__law_form) da_nil)) da_nil))) da_nil) nn_repr nb_repr) (d_op (dop_add false) (d_op (dop_add false) (d_op (dop_add false) (d_op (dop_add false) d_str (d_ix (dv 3 rfl v_law_right_3 nb__law_due nc__law_due) d_int)) d_str) (d_ix (dv 3 rfl v_law_right_3 nb__law_due nc__law_due) d_int)) d_str) (mark_no rfl))))))) hS
abbrev s_law : Stmt := top 35
theorem sc_law : FnScope ["_law_script", "_law_k", "_law_deck_here", "_law_some", "_law_row_here", "_law_parts", "_law_rows", "_law_form", "_law_turn"] ["_law_script"] (defScope s_law) := ⟨rfl, rfl, rfl, by decide +kernel, rfl, by decide +kernel, by decide +kernel⟩
theorem v_law_0 : Vis (defScope s_law) "_law_script" := Or.inl (by decide +kernel)
theorem g_law_len : (defScope s_law).names.lookup ("len" : Str) = some NameKind.globalImplicit := by decide +kernel
theorem g_law_min : (defScope s_law).names.lookup ("min" : Str) = some NameKind.globalImplicit := by decide +kernel
theorem g_law_max : (defScope s_law).names.lookup ("max" : Str) = some NameKind.globalImplicit := by decide +kernel
theorem g_law_range : (defScope s_law).names.lookup ("range" : Str) = some NameKind.globalImplicit := by decide +kernel
theorem l_law_1 : Loc (defScope s_law) "_law_k" := Or.inl (by decide +kernel)
theorem v_law_1 : Vis (defScope s_law) "_law_k" := Or.inl (by decide +kernel)
theorem g_law__law_deck : (defScope s_law).names.lookup ("_law_deck" : Str) = some NameKind.globalImplicit := by decide +kernel
theorem l_law_2 : Loc (defScope s_law) "_law_deck_here" := Or.inr (by decide +kernel)
theorem o_law_3 : (defScope s_law).names.lookup ("_law_some" : Str) = some NameKind.local := by decide +kernel
theorem v_law_3 : Vis (defScope s_law) "_law_some" := Or.inl (by decide +kernel)
theorem o_law_6 : (defScope s_law).names.lookup ("_law_rows" : Str) = some NameKind.local := by decide +kernel
theorem v_law_6 : Vis (defScope s_law) "_law_rows" := Or.inl (by decide +kernel)
theorem l_law_5 : Loc (defScope s_law) "_law_parts" := Or.inl (by decide +kernel)
theorem l_law_4 : Loc (defScope s_law) "_law_row_here" := Or.inl (by decide +kernel)
theorem l_law_7 : Loc (defScope s_law) "_law_form" := Or.inl (by decide +kernel)
theorem v_law_7 : Vis (defScope s_law) "_law_form" := Or.inl (by decide +kernel)
theorem v_law_4 : Vis (defScope s_law) "_law_row_here" := Or.inl (by decide +kernel)
theorem v_law_5 : Vis (defScope s_law) "_law_parts" := Or.inl (by decide +kernel)
theorem g_law__law_right : (defScope s_law).names.lookup ("_law_right" : Str) = some NameKind.globalImplicit := by decide +kernel
def w_law (fa : Nat → Addr) (S_law_deck S_law_good S_new_Form_2 S_law_right : Spc) : WS :=
  (sSeq (sFor (iRg1 (wCons (wCa max2R (wCons (wC (.int 1)) (wCons (wCa min2R (wCons (wCa lenR (wCons (wVar 0) wNil)) (wCons (wC (.int 6)) wNil))) wNil))) wNil)) (gNm 1)
    (sSeq (sAsg (wCall 2 S_law_deck (wCons (wVar 0) (wCons (wVar 1) wNil))) (gNm 2))
  (sSeq (sAsg (wLc false (iRg1 (wCons (wC (.int 2)) wNil)) (gNm 8) tYesP (wCall 1 S_law_good (wCons (wVar 2) wNil)) [8]) (gNm 3))
  (sSeq (sAsg (wLc false (iVal (wVar 3)) (gTp 2 (gCn (gNm 4) (gCn (gNm 5) gNl))) tYesP (wTup (wCons (wCall 2 S_new_Form_2 (wCons (wVar 4) (wCons (wVar 5) wNil))) (wCons (wVar 4) (wCons (wVar 5) wNil)))) [4, 5]) (gNm 6))
  (sFor (iVal (wOp (addR false) (wVar 6) (wCa (revA false) (wCons (wVar 6) wNil)))) (gTp 3 (gCn (gNm 7) (gCn (gNm 4) (gCn (gNm 5) gNl))))
    (sIf (tNotP (tTru (wCall 3 S_law_right (wCons (wVar 7) (wCons (wVar 4) (wCons (wVar 5) wNil)))))) (sRet (wC (.bl false))) sNext))))))
  (sRet (wC (.bl true))))
def q_law (fa : Nat → Addr) : QS :=
  (.seq (.for (.rg1 (.cons (.ca .max2 (.cons (.cst (.int 1)) (.cons (.ca .min2 (.cons (.ca .len (.cons (.var 0) .nil)) (.cons (.cst (.int 6)) .nil))) .nil))) .nil)) (.nm 1) (.seq (.asg (.call 2 F_law_deck (.cons (.var 0) (.cons (.var 1) .nil))) (.nm 2)) (.seq (.asg (.lc false (.rg1 (.cons (.cst (.int 2)) .nil)) (.nm 8) .yes (.call 1 F_law_good (.cons (.var 2) .nil)) [8]) (.nm 3)) (.seq (.asg (.lc false (.val (.var 3)) (.tp 2 (.cons (.nm 4) (.cons (.nm 5) .nil))) .yes (.tup (.cons (.call 2 F_new_Form_2 (.cons (.var 4) (.cons (.var 5) .nil))) (.cons (.var 4) (.cons (.var 5) .nil)))) [4 , 5]) (.nm 6)) (.for (.val (.op (.add false) (.var 6) (.ca (.rev false) (.cons (.var 6) .nil)))) (.tp 3 (.cons (.nm 7) (.cons (.nm 4) (.cons (.nm 5) .nil)))) (.ite (.not (.tru (.call 3 F_law_right (.cons (.var 7) (.cons (.var 4) (.cons (.var 5) .nil)))))) (.ret (.cst (.bl false))) .next)))))) (.ret (.cst (.bl true))))
theorem qd_law {fa : Nat → Addr} (φ : Nat → Spc) : (q_law fa).den φ = w_law fa (φ F_law_deck) (φ F_law_good) (φ F_new_Form_2) (φ F_law_right) := rfl
theorem ok_law {fa : Nat → Addr} {S_law_deck S_law_good S_new_Form_2 S_law_right : Spc} {S : Spc} {k : Nat} {f : Addr} {fd : FuncData} (F : Fun K "law" "law" s_law f fd) (T : Txt mg) (CT : CTs K mg fa) (C_law_deck : Callee P w K mg base k "_law_deck" 2 S_law_deck) (C_law_good : Callee P w K mg base k "_law_good" 1 S_law_good) (C_new_Form_2 : NewC P w K mg base k "Form" 2 S_new_Form_2) (C_law_right : Callee P w K mg base k "_law_right" 3 S_law_right)
    (hS : ∀ xs sto Q, xs.length = 1 → S xs sto Q → w_law fa S_law_deck S_law_good S_new_Form_2 S_law_right { nx := fun _ st' => Q .non st', rt := Q } (startP ["_law_script", "_law_k", "_law_deck_here", "_law_some", "_law_row_here", "_law_parts", "_law_rows", "_law_form", "_law_turn"] xs) sto) : FnG P w K mg base (k + 1) f fd ["_law_script"] (spOf K 1 S) :=
  fn_ok F sc_law rfl (fun cdv A outer s H G =>
    (ds_cons (ds_for PassesOwn.never G.calm (di_rng1 g_law_range T.m_range (da_cons (d_callB (dca_max2 G.calm) g_law_max T.m_max bt_max (da_cons d_int (da_cons (d_callB (dca_min2 G.calm) g_law_min T.m_min bt_min (da_cons (d_callB dca_len g_law_len T.m_len bt_len (da_cons (dv 0 rfl v_law_0 nb__law_script nc__law_script) da_nil) nn_len nb_len) (da_cons d_int da_nil)) nn_min nb_min) da_nil)) nn_max nb_max) da_nil)) (dg_name (i := 1) sc_law.nd rfl l_law_1 (Or.inl rfl)) (ds_cons (ds_set (i := 2) sc_law.nd rfl l_law_2 (d_callC C_law_deck G (da_cons (dv 0 rfl v_law_0 nb__law_script nc__law_script) (da_cons (dv 1 rfl v_law_1 nb__law_k nc__law_k) da_nil)) g_law__law_deck nb__law_deck) (by exact swaps_no rfl) (Or.inl rfl))
    (ds_cons (ds_setLc false (i := 3) G.calm sc_law.nd rfl o_law_3 (by rfl) (di_rng1 g_law_range T.m_range (da_cons d_int da_nil)) (blkOk_by (N := ["_law_script", "_law_k", "_law_deck_here", "_law_some", "_law_row_here", "_law_parts", "_law_rows", "_law_form", "_law_turn"]) (sc := defScope s_law) (own := [("_law_turn", 8)]) (by decide +kernel)) (fun _ _ _ _ _ => (dg_name (i := 8) sc_law.nd rfl (by first | exact loc_blk (Or.inl (by decide +kernel)) | exact loc_blk (Or.inr (by decide +kernel))) (by first | exact fl_blk (by decide +kernel) | exact fc_blk (by decide +kernel)))) (by decide) (fun _ _ _ _ _ => dts_nil) (fun _ _ _ _ _ => (d_callC C_law_good (xgb G) (da_cons (dv 2 rfl (by first | exact vis_blk (Or.inr (Or.inr (by decide +kernel))) | exact vis_blk (Or.inl (by decide +kernel)) | exact vis_blk (Or.inr (Or.inl (by decide +kernel)))) nb__law_deck_here nc__law_deck_here) da_nil) (gl_blk (by decide +kernel)) nb__law_good)))
    (ds_cons (ds_setLc false (i := 6) G.calm sc_law.nd rfl o_law_6 (by rfl) (di_val (dv 3 rfl v_law_3 nb__law_some nc__law_some)) (blkOk_by (N := ["_law_script", "_law_k", "_law_deck_here", "_law_some", "_law_row_here", "_law_parts", "_law_rows", "_law_form", "_law_turn"]) (sc := defScope s_law) (own := [("_law_row_here", 4), ("_law_parts", 5)]) (by decide +kernel)) (fun _ _ _ _ _ => (dg_tup (xgb G).calm (dgs_cons (dg_name (i := 4) sc_law.nd rfl (by first | exact loc_blk (Or.inl (by decide +kernel)) | exact loc_blk (Or.inr (by decide +kernel))) (by first | exact fl_blk (by decide +kernel) | exact fc_blk (by decide +kernel))) (dgs_cons (dg_name (i := 5) sc_law.nd rfl (by first | exact loc_blk (Or.inl (by decide +kernel)) | exact loc_blk (Or.inr (by decide +kernel))) (by first | exact fl_blk (by decide +kernel) | exact fc_blk (by decide +kernel))) dgs_nil)))) (by decide) (fun _ _ _ _ _ => dts_nil) (fun _ _ _ _ _ => (d_tup (da_cons (d_new C_new_Form_2 (xgb G) (da_cons (dv 4 rfl (by first | exact vis_blk (Or.inl (by decide +kernel)) | exact vis_blk (Or.inr (Or.inl (by decide +kernel))) | exact vis_blk (Or.inr (Or.inr (by decide +kernel)))) nb__law_row_here nc__law_row_here) (da_cons (dv 5 rfl (by first | exact vis_blk (Or.inl (by decide +kernel)) | exact vis_blk (Or.inr (Or.inl (by decide +kernel))) | exact vis_blk (Or.inr (Or.inr (by decide +kernel)))) nb__law_parts nc__law_parts) da_nil)) (gl_blk (by decide +kernel)) nb_Form) (da_cons (dv 4 rfl (by first | exact vis_blk (Or.inl (by decide +kernel)) | exact vis_blk (Or.inr (Or.inl (by decide +kernel))) | exact vis_blk (Or.inr (Or.inr (by decide +kernel)))) nb__law_row_here nc__law_row_here) (da_cons (dv 5 rfl (by first | exact vis_blk (Or.inl (by decide +kernel)) | exact vis_blk (Or.inr (Or.inl (by decide +kernel))) | exact vis_blk (Or.inr (Or.inr (by decide +kernel)))) nb__law_parts nc__law_parts) da_nil))))))
    (ds_one (ds_for PassesOwn.never G.calm (di_val (d_op (dop_add false) (dv 6 rfl v_law_6 nb__law_rows nc__law_rows) (d_revA false (dv 6 rfl v_law_6 nb__law_rows nc__law_rows)))) (dg_tup G.calm (dgs_cons (dg_name (i := 7) sc_law.nd rfl l_law_7 (Or.inl rfl)) (dgs_cons (dg_name (i := 4) sc_law.nd rfl l_law_4 (Or.inl rfl)) (dgs_cons (dg_name (i := 5) sc_law.nd rfl l_law_5 (Or.inl rfl)) dgs_nil)))) (ds_one (ds_if (dt_not (dt_tru (d_callC C_law_right G (da_cons (dv 7 rfl v_law_7 nb__law_form nc__law_form) (da_cons (dv 4 rfl v_law_4 nb__law_row_here nc__law_row_here) (da_cons (dv 5 rfl v_law_5 nb__law_parts nc__law_parts) da_nil))) g_law__law_right nb__law_right))) (ds_one (ds_ret d_bl)) ds_nil))))))))
    (ds_one (ds_ret d_bl)))) hS
def w_new_Form_2 (fa : Nat → Addr) (S_Form___init__ : Spc) : WS := wNew2 (fa 0) S_Form___init__
def q_new_Form_2 (fa : Nat → Addr) : QS := .ret (.f1 (wBirth 2 (fa 0)) (.call 3 F_Form___init__ (.cons (.var 2) (.cons (.var 0) (.cons (.var 1) .nil)))))
theorem qd_new_Form_2 {fa : Nat → Addr} (φ : Nat → Spc) : (q_new_Form_2 fa).den φ = w_new_Form_2 fa (φ F_Form___init__) := rfl
def prog (fa : Nat → Addr) : List QF := [⟨1, q_is_whole fa⟩, ⟨5, q_is_spelt fa⟩, ⟨1, q_is_unknown fa⟩, ⟨2, q_is_row fa⟩, ⟨2, q_is_square fa⟩, ⟨1, q_nought fa⟩, ⟨4, q_are_parts fa⟩, ⟨3, q_Form___init__ fa⟩, ⟨1, q_Form___len__ fa⟩, ⟨3, q_Form___str__ fa⟩, ⟨1, q_Form___repr__ fa⟩, ⟨2, q_shown_numbers fa⟩, ⟨1, q_shown_row fa⟩, ⟨2, q_shown_square fa⟩, ⟨3, q_law_deck fa⟩, ⟨4, q_law_draw fa⟩, ⟨2, q_law_number fa⟩, ⟨3, q_law_row fa⟩, ⟨5, q_law_square fa⟩, ⟨10, q_law_words fa⟩, ⟨3, q_law_unknowns fa⟩, ⟨2, q_law_line fa⟩, ⟨6, q_law_text fa⟩, ⟨1, q_law_tuple fa⟩, ⟨8, q_law_program fa⟩, ⟨6, q_law_good fa⟩, ⟨4, q_law_right fa⟩, ⟨9, q_law fa⟩, ⟨3, q_new_Form_2 fa⟩]
end
end K20
namespace K20
open PySem PySem.Spec L2 Pv
theorem go_is_whole {fa : Nat → Addr} {k : Nat} {xs : List PV} {st : Sto} {Q : PV → Sto → Prop} (h : w_is_whole fa { nx := fun _ st' => Q .non st', rt := Q } (startP ["thing"] xs) st) : Sem (prog fa) (k + 1) F_is_whole xs st Q := by
  show (q_is_whole fa).den (Sem (prog fa) k) { nx := fun _ st' => Q .non st', rt := Q } (startN 1 xs) st
  rw [qd_is_whole]
  exact h
theorem go_is_spelt {fa : Nat → Addr} {k : Nat} {xs : List PV} {st : Sto} {Q : PV → Sto → Prop} (h : w_is_spelt fa { nx := fun _ st' => Q .non st', rt := Q } (startP ["thing", "ahead", "first", "rest", "sign"] xs) st) : Sem (prog fa) (k + 1) F_is_spelt xs st Q := by
  show (q_is_spelt fa).den (Sem (prog fa) k) { nx := fun _ st' => Q .non st', rt := Q } (startN 5 xs) st
  rw [qd_is_spelt]
  exact h
theorem go_is_unknown {fa : Nat → Addr} {k : Nat} {xs : List PV} {st : Sto} {Q : PV → Sto → Prop} (h : w_is_unknown fa (Sem (prog fa) k F_is_spelt) { nx := fun _ st' => Q .non st', rt := Q } (startP ["thing"] xs) st) : Sem (prog fa) (k + 1) F_is_unknown xs st Q := by
  show (q_is_unknown fa).den (Sem (prog fa) k) { nx := fun _ st' => Q .non st', rt := Q } (startN 1 xs) st
  rw [qd_is_unknown]
  exact h
theorem go_is_row {fa : Nat → Addr} {k : Nat} {xs : List PV} {st : Sto} {Q : PV → Sto → Prop} (h : w_is_row fa (Sem (prog fa) k F_is_whole) { nx := fun _ st' => Q .non st', rt := Q } (startP ["thing", "one"] xs) st) : Sem (prog fa) (k + 1) F_is_row xs st Q := by
  show (q_is_row fa).den (Sem (prog fa) k) { nx := fun _ st' => Q .non st', rt := Q } (startN 2 xs) st
  rw [qd_is_row]
  exact h
theorem go_is_square {fa : Nat → Addr} {k : Nat} {xs : List PV} {st : Sto} {Q : PV → Sto → Prop} (h : w_is_square fa (Sem (prog fa) k F_is_row) { nx := fun _ st' => Q .non st', rt := Q } (startP ["thing", "row"] xs) st) : Sem (prog fa) (k + 1) F_is_square xs st Q := by
  show (q_is_square fa).den (Sem (prog fa) k) { nx := fun _ st' => Q .non st', rt := Q } (startN 2 xs) st
  rw [qd_is_square]
  exact h
theorem go_nought {fa : Nat → Addr} {k : Nat} {xs : List PV} {st : Sto} {Q : PV → Sto → Prop} (h : w_nought fa { nx := fun _ st' => Q .non st', rt := Q } (startP ["width"] xs) st) : Sem (prog fa) (k + 1) F_nought xs st Q := by
  show (q_nought fa).den (Sem (prog fa) k) { nx := fun _ st' => Q .non st', rt := Q } (startN 1 xs) st
  rw [qd_nought]
  exact h
theorem go_are_parts {fa : Nat → Addr} {k : Nat} {xs : List PV} {st : Sto} {Q : PV → Sto → Prop} (h : w_are_parts fa (Sem (prog fa) k F_is_unknown) (Sem (prog fa) k F_is_square) (Sem (prog fa) k F_nought) { nx := fun _ st' => Q .non st', rt := Q } (startP ["thing", "width", "one", "other"] xs) st) : Sem (prog fa) (k + 1) F_are_parts xs st Q := by
  show (q_are_parts fa).den (Sem (prog fa) k) { nx := fun _ st' => Q .non st', rt := Q } (startN 4 xs) st
  rw [qd_are_parts]
  exact h
theorem go_Form___init__ {fa : Nat → Addr} {k : Nat} {xs : List PV} {st : Sto} {Q : PV → Sto → Prop} (h : w_Form___init__ fa (Sem (prog fa) k F_is_row) (Sem (prog fa) k F_are_parts) { nx := fun _ st' => Q .non st', rt := Q } (startP ["self", "base", "parts"] xs) st) : Sem (prog fa) (k + 1) F_Form___init__ xs st Q := by
  show (q_Form___init__ fa).den (Sem (prog fa) k) { nx := fun _ st' => Q .non st', rt := Q } (startN 3 xs) st
  rw [qd_Form___init__]
  exact h
theorem go_Form___len__ {fa : Nat → Addr} {k : Nat} {xs : List PV} {st : Sto} {Q : PV → Sto → Prop} (h : w_Form___len__ fa { nx := fun _ st' => Q .non st', rt := Q } (startP ["self"] xs) st) : Sem (prog fa) (k + 1) F_Form___len__ xs st Q := by
  show (q_Form___len__ fa).den (Sem (prog fa) k) { nx := fun _ st' => Q .non st', rt := Q } (startN 1 xs) st
  rw [qd_Form___len__]
  exact h
theorem go_Form___str__ {fa : Nat → Addr} {k : Nat} {xs : List PV} {st : Sto} {Q : PV → Sto → Prop} (h : w_Form___str__ fa (Sem (prog fa) k F_shown_row) (Sem (prog fa) k F_shown_square) { nx := fun _ st' => Q .non st', rt := Q } (startP ["self", "unknown", "square"] xs) st) : Sem (prog fa) (k + 1) F_Form___str__ xs st Q := by
  show (q_Form___str__ fa).den (Sem (prog fa) k) { nx := fun _ st' => Q .non st', rt := Q } (startN 3 xs) st
  rw [qd_Form___str__]
  exact h
theorem go_Form___repr__ {fa : Nat → Addr} {k : Nat} {xs : List PV} {st : Sto} {Q : PV → Sto → Prop} (h : w_Form___repr__ fa { nx := fun _ st' => Q .non st', rt := Q } (startP ["self"] xs) st) : Sem (prog fa) (k + 1) F_Form___repr__ xs st Q := by
  show (q_Form___repr__ fa).den (Sem (prog fa) k) { nx := fun _ st' => Q .non st', rt := Q } (startN 1 xs) st
  rw [qd_Form___repr__]
  exact h
theorem go_shown_numbers {fa : Nat → Addr} {k : Nat} {xs : List PV} {st : Sto} {Q : PV → Sto → Prop} (h : w_shown_numbers fa { nx := fun _ st' => Q .non st', rt := Q } (startP ["row", "one"] xs) st) : Sem (prog fa) (k + 1) F_shown_numbers xs st Q := by
  show (q_shown_numbers fa).den (Sem (prog fa) k) { nx := fun _ st' => Q .non st', rt := Q } (startN 2 xs) st
  rw [qd_shown_numbers]
  exact h
theorem go_shown_row {fa : Nat → Addr} {k : Nat} {xs : List PV} {st : Sto} {Q : PV → Sto → Prop} (h : w_shown_row fa (Sem (prog fa) k F_shown_numbers) { nx := fun _ st' => Q .non st', rt := Q } (startP ["row"] xs) st) : Sem (prog fa) (k + 1) F_shown_row xs st Q := by
  show (q_shown_row fa).den (Sem (prog fa) k) { nx := fun _ st' => Q .non st', rt := Q } (startN 1 xs) st
  rw [qd_shown_row]
  exact h
theorem go_shown_square {fa : Nat → Addr} {k : Nat} {xs : List PV} {st : Sto} {Q : PV → Sto → Prop} (h : w_shown_square fa (Sem (prog fa) k F_shown_numbers) { nx := fun _ st' => Q .non st', rt := Q } (startP ["square", "row"] xs) st) : Sem (prog fa) (k + 1) F_shown_square xs st Q := by
  show (q_shown_square fa).den (Sem (prog fa) k) { nx := fun _ st' => Q .non st', rt := Q } (startN 2 xs) st
  rw [qd_shown_square]
  exact h
theorem go_law_deck {fa : Nat → Addr} {k : Nat} {xs : List PV} {st : Sto} {Q : PV → Sto → Prop} (h : w_law_deck fa { nx := fun _ st' => Q .non st', rt := Q } (startP ["_law_script", "_law_k", "_law_cell"] xs) st) : Sem (prog fa) (k + 1) F_law_deck xs st Q := by
  show (q_law_deck fa).den (Sem (prog fa) k) { nx := fun _ st' => Q .non st', rt := Q } (startN 3 xs) st
  rw [qd_law_deck]
  exact h
theorem go_law_draw {fa : Nat → Addr} {k : Nat} {xs : List PV} {st : Sto} {Q : PV → Sto → Prop} (h : w_law_draw fa { nx := fun _ st' => Q .non st', rt := Q } (startP ["_law_deck_here", "_law_many", "_law_digit", "_law_far"] xs) st) : Sem (prog fa) (k + 1) F_law_draw xs st Q := by
  show (q_law_draw fa).den (Sem (prog fa) k) { nx := fun _ st' => Q .non st', rt := Q } (startN 4 xs) st
  rw [qd_law_draw]
  exact h
theorem go_law_number {fa : Nat → Addr} {k : Nat} {xs : List PV} {st : Sto} {Q : PV → Sto → Prop} (h : w_law_number fa (Sem (prog fa) k F_law_draw) { nx := fun _ st' => Q .non st', rt := Q } (startP ["_law_deck_here", "_law_some"] xs) st) : Sem (prog fa) (k + 1) F_law_number xs st Q := by
  show (q_law_number fa).den (Sem (prog fa) k) { nx := fun _ st' => Q .non st', rt := Q } (startN 2 xs) st
  rw [qd_law_number]
  exact h
theorem go_law_row {fa : Nat → Addr} {k : Nat} {xs : List PV} {st : Sto} {Q : PV → Sto → Prop} (h : w_law_row fa (Sem (prog fa) k F_law_number) { nx := fun _ st' => Q .non st', rt := Q } (startP ["_law_deck_here", "_law_size", "_law_k"] xs) st) : Sem (prog fa) (k + 1) F_law_row xs st Q := by
  show (q_law_row fa).den (Sem (prog fa) k) { nx := fun _ st' => Q .non st', rt := Q } (startN 3 xs) st
  rw [qd_law_row]
  exact h
theorem go_law_square {fa : Nat → Addr} {k : Nat} {xs : List PV} {st : Sto} {Q : PV → Sto → Prop} (h : w_law_square fa (Sem (prog fa) k F_law_draw) (Sem (prog fa) k F_law_row) { nx := fun _ st' => Q .non st', rt := Q } (startP ["_law_deck_here", "_law_size", "_law_way", "_law_k", "_law_at"] xs) st) : Sem (prog fa) (k + 1) F_law_square xs st Q := by
  show (q_law_square fa).den (Sem (prog fa) k) { nx := fun _ st' => Q .non st', rt := Q } (startN 5 xs) st
  rw [qd_law_square]
  exact h
theorem go_law_words {fa : Nat → Addr} {k : Nat} {xs : List PV} {st : Sto} {Q : PV → Sto → Prop} (h : w_law_words fa (Sem (prog fa) k F_law_draw) { nx := fun _ st' => Q .non st', rt := Q } (startP ["_law_deck_here", "_law_many", "_law_letters", "_law_way", "_law_first", "_law_k", "_law_word", "_law_at", "_law_found", "_law_sign"] xs) st) : Sem (prog fa) (k + 1) F_law_words xs st Q := by
  show (q_law_words fa).den (Sem (prog fa) k) { nx := fun _ st' => Q .non st', rt := Q } (startN 10 xs) st
  rw [qd_law_words]
  exact h
theorem go_law_unknowns {fa : Nat → Addr} {k : Nat} {xs : List PV} {st : Sto} {Q : PV → Sto → Prop} (h : w_law_unknowns fa (Sem (prog fa) k F_law_words) { nx := fun _ st' => Q .non st', rt := Q } (startP ["_law_deck_here", "_law_many", "_law_word"] xs) st) : Sem (prog fa) (k + 1) F_law_unknowns xs st Q := by
  show (q_law_unknowns fa).den (Sem (prog fa) k) { nx := fun _ st' => Q .non st', rt := Q } (startN 3 xs) st
  rw [qd_law_unknowns]
  exact h
theorem go_law_line {fa : Nat → Addr} {k : Nat} {xs : List PV} {st : Sto} {Q : PV → Sto → Prop} (h : w_law_line fa { nx := fun _ st' => Q .non st', rt := Q } (startP ["_law_row_here", "_law_one"] xs) st) : Sem (prog fa) (k + 1) F_law_line xs st Q := by
  show (q_law_line fa).den (Sem (prog fa) k) { nx := fun _ st' => Q .non st', rt := Q } (startN 2 xs) st
  rw [qd_law_line]
  exact h
theorem go_law_text {fa : Nat → Addr} {k : Nat} {xs : List PV} {st : Sto} {Q : PV → Sto → Prop} (h : w_law_text fa (Sem (prog fa) k F_law_line) { nx := fun _ st' => Q .non st', rt := Q } (startP ["_law_row_here", "_law_some", "_law_found", "_law_unknown", "_law_square_here", "_law_line_here"] xs) st) : Sem (prog fa) (k + 1) F_law_text xs st Q := by
  show (q_law_text fa).den (Sem (prog fa) k) { nx := fun _ st' => Q .non st', rt := Q } (startN 6 xs) st
  rw [qd_law_text]
  exact h
theorem go_law_tuple {fa : Nat → Addr} {k : Nat} {xs : List PV} {st : Sto} {Q : PV → Sto → Prop} (h : w_law_tuple fa { nx := fun _ st' => Q .non st', rt := Q } (startP ["_law_words_here"] xs) st) : Sem (prog fa) (k + 1) F_law_tuple xs st Q := by
  show (q_law_tuple fa).den (Sem (prog fa) k) { nx := fun _ st' => Q .non st', rt := Q } (startN 1 xs) st
  rw [qd_law_tuple]
  exact h
theorem go_law_program {fa : Nat → Addr} {k : Nat} {xs : List PV} {st : Sto} {Q : PV → Sto → Prop} (h : w_law_program fa (Sem (prog fa) k F_law_tuple) { nx := fun _ st' => Q .non st', rt := Q } (startP ["_law_row_here", "_law_some", "_law_parts", "_law_unknown", "_law_square_here", "_law_lines", "_law_line_here", "_law_one"] xs) st) : Sem (prog fa) (k + 1) F_law_program xs st Q := by
  show (q_law_program fa).den (Sem (prog fa) k) { nx := fun _ st' => Q .non st', rt := Q } (startN 8 xs) st
  rw [qd_law_program]
  exact h
theorem go_law_good {fa : Nat → Addr} {k : Nat} {xs : List PV} {st : Sto} {Q : PV → Sto → Prop} (h : w_law_good fa (Sem (prog fa) k F_law_draw) (Sem (prog fa) k F_law_unknowns) (Sem (prog fa) k F_law_square) (Sem (prog fa) k F_law_row) { nx := fun _ st' => Q .non st', rt := Q } (startP ["_law_deck_here", "_law_size", "_law_some", "_law_unknown", "_law_square_here", "_law_line_here"] xs) st) : Sem (prog fa) (k + 1) F_law_good xs st Q := by
  show (q_law_good fa).den (Sem (prog fa) k) { nx := fun _ st' => Q .non st', rt := Q } (startN 6 xs) st
  rw [qd_law_good]
  exact h
theorem go_law_right {fa : Nat → Addr} {k : Nat} {xs : List PV} {st : Sto} {Q : PV → Sto → Prop} (h : w_law_right fa (Sem (prog fa) k F_law_text) (Sem (prog fa) k F_law_program) (Sem (prog fa) k F_Form___str__) (Sem (prog fa) k F_Form___repr__) (Sem (prog fa) k F_Form___len__) { nx := fun _ st' => Q .non st', rt := Q } (startP ["_law_form", "_law_row_here", "_law_some", "_law_due"] xs) st) : Sem (prog fa) (k + 1) F_law_right xs st Q := by
  show (q_law_right fa).den (Sem (prog fa) k) { nx := fun _ st' => Q .non st', rt := Q } (startN 4 xs) st
  rw [qd_law_right]
  exact h
theorem go_law {fa : Nat → Addr} {k : Nat} {xs : List PV} {st : Sto} {Q : PV → Sto → Prop} (h : w_law fa (Sem (prog fa) k F_law_deck) (Sem (prog fa) k F_law_good) (Sem (prog fa) k F_new_Form_2) (Sem (prog fa) k F_law_right) { nx := fun _ st' => Q .non st', rt := Q } (startP ["_law_script", "_law_k", "_law_deck_here", "_law_some", "_law_row_here", "_law_parts", "_law_rows", "_law_form", "_law_turn"] xs) st) : Sem (prog fa) (k + 1) F_law xs st Q := by
  show (q_law fa).den (Sem (prog fa) k) { nx := fun _ st' => Q .non st', rt := Q } (startN 9 xs) st
  rw [qd_law]
  exact h
theorem go_new_Form_2 {fa : Nat → Addr} {k : Nat} {xs : List PV} {st : Sto} {Q : PV → Sto → Prop} (h : w_new_Form_2 fa (Sem (prog fa) k F_Form___init__) { nx := fun _ st' => Q .non st', rt := Q } (startP ["a0", "a1", "self"] xs) st) : Sem (prog fa) (k + 1) F_new_Form_2 xs st Q := by
  show (q_new_Form_2 fa).den (Sem (prog fa) k) { nx := fun _ st' => Q .non st', rt := Q } (startN 3 xs) st
  rw [qd_new_Form_2]
  exact h
end K20
set_option maxHeartbeats 40000000
namespace K20
open PySem PySem.Spec L2 Pv PySem.W
variable {fa : Nat → Addr}
section
variable {N lv : Nat} {st : Sto} {Q : PV → Sto → Prop}
theorem c_whole (hlv : 1 ≤ lv) {x : PV} (hx : okV N x = true) (q : Q (.bl (whV x)) st) : Sem (prog fa) lv F_is_whole [x] st Q := by
  obtain ⟨lv, rfl⟩ : ∃ j, lv = j + 1 := ⟨lv - 1, by omega⟩
  refine go_is_whole ?_
  cases x with
  | fls _ => cases hx
  | ref _ => cases hx
  | ptp _ => cases hx
  | fn _ => cases hx
  | ins _ _ _ => cases hx
  | _ =>
    simp only [w_is_whole, wIsi, wAndT, wNotT, tyP, isiB, sSeq, sIf, sAsg, sRet, sRetN, sNext, sDrop, gNm, gIx, gTp, gCn, gNl, tValP, tTru, truP, tNotP, tAndP, tOrP, wOp, wVar, wC, wCa, wCons, wNil, wTup, wLst, wIf, wCall, wNeg, startP, List.map_cons, List.map_nil, List.cons_append, List.nil_append, List.getElem?_cons_zero, List.getElem?_cons_succ, List.length_cons, List.length_nil, Nat.reduceAdd, Nat.reduceSub, List.replicate_succ, List.replicate_zero, List.set_cons_zero, List.set_cons_succ, Option.some.injEq, exists_eq_left', PV.bl.injEq, PV.int.injEq, PV.str.injEq, PV.ref.injEq, PV.tup.injEq, PV.lst.injEq, Cell.lst.injEq, List.cons.injEq, and_true, true_and, exists_and_left, r_add, r_adds, r_addt, r_addl, r_sub, r_mul, r_fdiv, r_mod, r_pow, r_lt, r_le, r_gt, r_ge, r_eqi, r_nei, r_eqs, r_nes, r_inti, r_intb, r_ixr, r_ixl, r_ixt, r_newt, r_newf, atI_0, atI_1, atI_2, decide_eq_true_eq]
    first | exact q | exact ⟨_, rfl, q⟩
theorem natV_row {xs : List PV} : ((xs.map natV).all id) = xs.all natV := by rw [List.all_map]; rfl
theorem c_row (hlv : 2 ≤ lv) {x : PV} (hx : okV N x = true) (q : Q (.bl (rowV x)) st) : Sem (prog fa) lv F_is_row [x] st Q := by
  obtain ⟨lv, rfl⟩ : ∃ j, lv = j + 1 := ⟨lv - 1, by omega⟩
  refine go_is_row ?_
  have big : sizeLine = 16777216 := rfl
  have other : ∀ t, tyP st x = some t → isiB t "tuple" = false → rowV x = false → w_is_row fa (Sem (prog fa) lv F_is_whole) { nx := fun _ st' => Q .non st', rt := Q } (startP ["thing", "one"] [x]) st := fun t h1 h2 h3 => by
    rw [h3] at q
    simp only [w_is_row, wIsi, sSeq, sIf, sAsg, sRet, sRetN, sNext, sDrop, gNm, gIx, gTp, gCn, gNl, tValP, tTru, truP, tNotP, tAndP, tOrP, wOp, wVar, wC, wCa, wCons, wNil, wTup, wLst, wIf, wCall, wNeg, startP, List.map_cons, List.map_nil, List.cons_append, List.nil_append, List.getElem?_cons_zero, List.getElem?_cons_succ, List.length_cons, List.length_nil, Nat.reduceAdd, Nat.reduceSub, List.replicate_succ, List.replicate_zero, List.set_cons_zero, List.set_cons_succ, Option.some.injEq, exists_eq_left', PV.bl.injEq, PV.int.injEq, PV.str.injEq, PV.ref.injEq, PV.tup.injEq, PV.lst.injEq, Cell.lst.injEq, List.cons.injEq, and_true, true_and, exists_and_left, r_add, r_adds, r_addt, r_addl, r_sub, r_mul, r_fdiv, r_mod, r_pow, r_lt, r_le, r_gt, r_ge, r_eqi, r_nei, r_eqs, r_nes, r_inti, r_intb, r_ixr, r_ixl, r_ixt, r_newt, r_newf, atI_0, atI_1, atI_2, decide_eq_true_eq]
    refine ⟨t, h1, ?_⟩
    simp only [h2, Bool.not_false, if_true]
    exact q
  cases x with
  | fls _ => cases hx
  | ref _ => cases hx
  | ptp _ => cases hx
  | fn _ => cases hx
  | ins _ _ _ => cases hx
  | tup xs =>
    have hel := okV_el hx
    simp only [w_is_row, wIsi, tyP, isiB, tChainP, wLc, iVal, itP, seqP, wAndT, wipeP, sSeq, sIf, sAsg, sRet, sRetN, sNext, sDrop, gNm, gIx, gTp, gCn, gNl, tValP, tTru, truP, tNotP, tAndP, tOrP, wOp, wVar, wC, wCa, wCons, wNil, wTup, wLst, wIf, wCall, wNeg, startP, List.map_cons, List.map_nil, List.cons_append, List.nil_append, List.getElem?_cons_zero, List.getElem?_cons_succ, List.length_cons, List.length_nil, Nat.reduceAdd, Nat.reduceSub, List.replicate_succ, List.replicate_zero, List.set_cons_zero, List.set_cons_succ, Option.some.injEq, exists_eq_left', PV.bl.injEq, PV.int.injEq, PV.str.injEq, PV.ref.injEq, PV.tup.injEq, PV.lst.injEq, Cell.lst.injEq, List.cons.injEq, and_true, true_and, exists_and_left, r_add, r_adds, r_addt, r_addl, r_sub, r_mul, r_fdiv, r_mod, r_pow, r_lt, r_le, r_gt, r_ge, r_eqi, r_nei, r_eqs, r_nes, r_inti, r_intb, r_ixr, r_ixl, r_ixt, r_newt, r_newf, atI_0, atI_1, atI_2, decide_eq_true_eq]
    refine ⟨_, rfl, ?_⟩
    simp only [beq_self_eq_true, Bool.true_or, Bool.not_true, Bool.false_eq_true, if_false]
    refine ⟨xs, rfl, ?_⟩
    simp only [r_le, PV.bl.injEq, exists_eq_left']
    simp only [rowV] at q
    by_cases h1 : 1 ≤ xs.length
    · rw [if_pos (by simp; omega)]
      by_cases h3 : xs.length ≤ 3
      · rw [if_neg (by simp; omega)]
        rw [decide_eq_true ⟨h1, h3⟩, Bool.true_and] at q
        refine lc_bls (acc := []) natV _ _ trivial (fun z mz Q' q' => ?_) (by simp; omega) ?_
        · simp only [wAndT, sSeq, sIf, sAsg, sRet, sRetN, sNext, sDrop, gNm, gIx, gTp, gCn, gNl, tValP, tTru, truP, tNotP, tAndP, tOrP, wOp, wVar, wC, wCa, wCons, wNil, wTup, wLst, wIf, wCall, wNeg, startP, List.map_cons, List.map_nil, List.cons_append, List.nil_append, List.getElem?_cons_zero, List.getElem?_cons_succ, List.length_cons, List.length_nil, Nat.reduceAdd, Nat.reduceSub, List.replicate_succ, List.replicate_zero, List.set_cons_zero, List.set_cons_succ, Option.some.injEq, exists_eq_left', PV.bl.injEq, PV.int.injEq, PV.str.injEq, PV.ref.injEq, PV.tup.injEq, PV.lst.injEq, Cell.lst.injEq, List.cons.injEq, and_true, true_and, exists_and_left, r_add, r_adds, r_addt, r_addl, r_sub, r_mul, r_fdiv, r_mod, r_pow, r_lt, r_le, r_gt, r_ge, r_eqi, r_nei, r_eqs, r_nes, r_inti, r_intb, r_ixr, r_ixl, r_ixt, r_newt, r_newf, atI_0, atI_1, atI_2, decide_eq_true_eq]
          refine c_whole (by omega) (hel z mz) ?_
          refine ⟨whV z, rfl, ?_⟩
          cases z with
          | int i => exact q'
          | _ => exact q'
        · rw [List.nil_append]
          refine all_r ?_
          rw [natV_row]
          exact q
      · rw [if_pos (by simp; omega)]
        rw [decide_eq_false (by omega), Bool.false_and] at q
        exact q
    · rw [if_neg (by simp; omega)]
      rw [decide_eq_false (by omega), Bool.false_and] at q
      simpa using q
  | _ => exact other _ rfl rfl rfl
theorem rowV_len {x : PV} (h : rowV x = true) : ∃ ys, x = .tup ys := by
  cases x with
  | tup ys => exact ⟨ys, rfl⟩
  | _ => cases h
theorem c_square (hlv : 3 ≤ lv) {x : PV} (hx : okV N x = true) (q : Q (.bl (sqV x)) st) : Sem (prog fa) lv F_is_square [x] st Q := by
  obtain ⟨lv, rfl⟩ : ∃ j, lv = j + 1 := ⟨lv - 1, by omega⟩
  refine go_is_square ?_
  have big : sizeLine = 16777216 := rfl
  have other : ∀ t, tyP st x = some t → isiB t "tuple" = false → sqV x = false → w_is_square fa (Sem (prog fa) lv F_is_row) { nx := fun _ st' => Q .non st', rt := Q } (startP ["thing", "row"] [x]) st := fun t h1 h2 h3 => by
    rw [h3] at q
    simp only [w_is_square, wIsi, sSeq, sIf, sAsg, sRet, sRetN, sNext, sDrop, gNm, gIx, gTp, gCn, gNl, tValP, tTru, truP, tNotP, tAndP, tOrP, wOp, wVar, wC, wCa, wCons, wNil, wTup, wLst, wIf, wCall, wNeg, startP, List.map_cons, List.map_nil, List.cons_append, List.nil_append, List.getElem?_cons_zero, List.getElem?_cons_succ, List.length_cons, List.length_nil, Nat.reduceAdd, Nat.reduceSub, List.replicate_succ, List.replicate_zero, List.set_cons_zero, List.set_cons_succ, Option.some.injEq, exists_eq_left', PV.bl.injEq, PV.int.injEq, PV.str.injEq, PV.ref.injEq, PV.tup.injEq, PV.lst.injEq, Cell.lst.injEq, List.cons.injEq, and_true, true_and, exists_and_left, r_add, r_adds, r_addt, r_addl, r_sub, r_mul, r_fdiv, r_mod, r_pow, r_lt, r_le, r_gt, r_ge, r_eqi, r_nei, r_eqs, r_nes, r_inti, r_intb, r_ixr, r_ixl, r_ixt, r_newt, r_newf, atI_0, atI_1, atI_2, decide_eq_true_eq]
    refine ⟨t, h1, ?_⟩
    simp only [h2, Bool.not_false, if_true]
    exact q
  cases x with
  | fls _ => cases hx
  | ref _ => cases hx
  | ptp _ => cases hx
  | fn _ => cases hx
  | ins _ _ _ => cases hx
  | tup xs =>
    have hel := okV_el hx
    simp only [w_is_square, wIsi, tyP, isiB, tChainP, wLc, iVal, itP, seqP, wAndT, wipeP, sSeq, sIf, sAsg, sRet, sRetN, sNext, sDrop, gNm, gIx, gTp, gCn, gNl, tValP, tTru, truP, tNotP, tAndP, tOrP, wOp, wVar, wC, wCa, wCons, wNil, wTup, wLst, wIf, wCall, wNeg, startP, List.map_cons, List.map_nil, List.cons_append, List.nil_append, List.getElem?_cons_zero, List.getElem?_cons_succ, List.length_cons, List.length_nil, Nat.reduceAdd, Nat.reduceSub, List.replicate_succ, List.replicate_zero, List.set_cons_zero, List.set_cons_succ, Option.some.injEq, exists_eq_left', PV.bl.injEq, PV.int.injEq, PV.str.injEq, PV.ref.injEq, PV.tup.injEq, PV.lst.injEq, Cell.lst.injEq, List.cons.injEq, and_true, true_and, exists_and_left, r_add, r_adds, r_addt, r_addl, r_sub, r_mul, r_fdiv, r_mod, r_pow, r_lt, r_le, r_gt, r_ge, r_eqi, r_nei, r_eqs, r_nes, r_inti, r_intb, r_ixr, r_ixl, r_ixt, r_newt, r_newf, atI_0, atI_1, atI_2, decide_eq_true_eq]
    refine ⟨_, rfl, ?_⟩
    simp only [beq_self_eq_true, Bool.true_or, Bool.not_true, Bool.false_eq_true, if_false]
    refine ⟨xs, rfl, ?_⟩
    simp only [r_le, PV.bl.injEq, exists_eq_left']
    simp only [sqV] at q
    by_cases h1 : 1 ≤ xs.length
    · rw [if_pos (by simp; omega)]
      by_cases h3 : xs.length ≤ 3
      · rw [if_neg (by simp; omega)]
        rw [decide_eq_true ⟨h1, h3⟩, Bool.true_and] at q
        refine lc_bls (acc := []) (fun r => rowV r && decide (lenV r = xs.length)) _ _ trivial (fun z mz Q' q' => ?_) (by simp; omega) ?_
        · simp only [wAndT, sSeq, sIf, sAsg, sRet, sRetN, sNext, sDrop, gNm, gIx, gTp, gCn, gNl, tValP, tTru, truP, tNotP, tAndP, tOrP, wOp, wVar, wC, wCa, wCons, wNil, wTup, wLst, wIf, wCall, wNeg, startP, List.map_cons, List.map_nil, List.cons_append, List.nil_append, List.getElem?_cons_zero, List.getElem?_cons_succ, List.length_cons, List.length_nil, Nat.reduceAdd, Nat.reduceSub, List.replicate_succ, List.replicate_zero, List.set_cons_zero, List.set_cons_succ, Option.some.injEq, exists_eq_left', PV.bl.injEq, PV.int.injEq, PV.str.injEq, PV.ref.injEq, PV.tup.injEq, PV.lst.injEq, Cell.lst.injEq, List.cons.injEq, and_true, true_and, exists_and_left, r_add, r_adds, r_addt, r_addl, r_sub, r_mul, r_fdiv, r_mod, r_pow, r_lt, r_le, r_gt, r_ge, r_eqi, r_nei, r_eqs, r_nes, r_inti, r_intb, r_ixr, r_ixl, r_ixt, r_newt, r_newf, atI_0, atI_1, atI_2, decide_eq_true_eq]
          refine c_row (by omega) (hel z mz) ?_
          refine ⟨rowV z, rfl, ?_⟩
          cases hz : rowV z with
          | false => simp only [hz, Bool.false_and] at q'; rw [if_neg (by decide)]; exact q'
          | true =>
            obtain ⟨ys, rfl⟩ := rowV_len hz
            simp only [hz, Bool.true_and, lenV] at q'
            rw [if_pos rfl]
            refine r_len (ys := ys) rfl (r_len (ys := xs) rfl (r_eqi.mpr ?_))
            have e : ((ys.length : Int) == (xs.length : Int)) = decide (ys.length = xs.length) := by
              rw [Bool.eq_iff_iff]; simp; omega
            rw [e]
            exact q'
        · rw [List.nil_append]
          refine all_r ?_
          rw [List.all_map]
          exact q
      · rw [if_pos (by simp; omega)]
        rw [decide_eq_false (by omega), Bool.false_and] at q
        exact q
    · rw [if_neg (by simp; omega)]
      rw [decide_eq_false (by omega), Bool.false_and] at q
      simpa using q
  | _ => exact other _ rfl rfl rfl
end
end K20
namespace K20
open PySem PySem.Spec L2 Pv PySem.W
variable {fa : Nat → Addr}
section
variable {lv : Nat} {st : Sto} {Q : PV → Sto → Prop}
def iR (as : List Nat) : PV := .tup (as.map fun k : Nat => PV.int (k : Nat))
def sqP (rs : List (List Nat)) : PV := .tup (rs.map iR)
theorem c_nought (hlv : 1 ≤ lv) {n : Nat} (h1 : 1 ≤ n) (h3 : n ≤ 3) (q : Q (sqP (List.replicate n (List.replicate n 0))) st) : Sem (prog fa) lv F_nought [.int (n : Nat)] st Q := by
  obtain ⟨lv, rfl⟩ : ∃ j, lv = j + 1 := ⟨lv - 1, by omega⟩
  refine go_nought ?_
  have big : sizeLine = 16777216 := rfl
  simp only [w_nought, sSeq, sIf, sAsg, sRet, sRetN, sNext, sDrop, gNm, gIx, gTp, gCn, gNl, tValP, tTru, truP, tNotP, tAndP, tOrP, wOp, wVar, wC, wCa, wCons, wNil, wTup, wLst, wIf, wCall, wNeg, startP, List.map_cons, List.map_nil, List.cons_append, List.nil_append, List.getElem?_cons_zero, List.getElem?_cons_succ, List.length_cons, List.length_nil, Nat.reduceAdd, Nat.reduceSub, List.replicate_succ, List.replicate_zero, List.set_cons_zero, List.set_cons_succ, Option.some.injEq, exists_eq_left', PV.bl.injEq, PV.int.injEq, PV.str.injEq, PV.ref.injEq, PV.tup.injEq, PV.lst.injEq, Cell.lst.injEq, List.cons.injEq, and_true, true_and, exists_and_left, r_add, r_adds, r_addt, r_addl, r_sub, r_mul, r_fdiv, r_mod, r_pow, r_lt, r_le, r_gt, r_ge, r_eqi, r_nei, r_eqs, r_nes, r_inti, r_intb, r_ixr, r_ixl, r_ixt, r_newt, r_newf, atI_0, atI_1, atI_2, decide_eq_true_eq]
  have n1 : ((n : Nat) : Int).toNat = n := Int.toNat_natCast n
  refine ⟨by omega, ?_⟩
  refine ⟨by simp, by omega, by omega, by simp, by omega, ?_⟩
  refine ⟨by simp, by omega, by omega, by simp, ?_⟩
  rw [n1]
  have e : PV.tup (List.replicate n [PV.tup (List.replicate n [PV.int 0]).flatten]).flatten = sqP (List.replicate n (List.replicate n 0)) := by
    match n, h1, h3 with
    | 1, _, _ => rfl
    | 2, _, _ => rfl
    | 3, _, _ => rfl
  rw [e]
  exact q
end
end K20
set_option maxHeartbeats 400000
namespace K20
open PySem PySem.Spec L2 Pv
variable {fa : Nat → Addr}
section
variable {lv : Nat} {st : Sto} {Q : PV → Sto → Prop}
theorem signs_in {gd : Sto → Prop} {i : Nat} {env : Envp} {L : Str} (hi : i < env.length) : ∀ (cs : List Nat) (bs : List Bool) (st : Sto) (kk : List PV → Sto → Prop), (∀ s, gd s) → (∀ c ∈ cs, c ∈ L.cps.toList) → (∀ b ∈ bs, b = true) → bs.length + cs.length ≤ 100 →
    (∀ bs' : List Bool, (∀ b ∈ bs', b = true) → kk (pBls bs') st) → lcGo gd (gNm i) tYesP (wOp inSR (wVar i) (wC (.str L))) env (cs.map fun c => PV.str ⟨#[c]⟩) (pBls bs) st kk
  | [], bs, st, kk, hg, hc, hb, hl, k => ⟨hg st, k bs hb⟩
  | c :: cs, bs, st, kk, hg, hc, hb, hl, k => by
    have big : (100 : Nat) ≤ sizeLine := by decide
    simp only [List.length_cons] at hl
    refine ⟨hg st, ?_⟩
    simp only [gNm, tYesP, if_true, wOp, wVar, wC]
    refine ⟨_, List.getElem?_set_self hi, c, L, rfl, rfl, ?_, ?_⟩
    · simp only [pBls, List.length_map]; omega
    · have e : pBls bs ++ [PV.bl (decide (c ∈ L.cps.toList))] = pBls (bs ++ [true]) := by
        rw [decide_eq_true (hc c List.mem_cons_self)]
        simp [pBls]
      rw [e]
      refine signs_in hi cs _ st kk hg (fun x m => hc x (List.mem_cons_of_mem _ m)) (fun b m => ?_) (by simp; omega) k
      rcases List.mem_append.mp m with m | m
      · exact hb b m
      · rw [List.mem_singleton] at m; exact m
def isp2 : WS := (sSeq (sAsg (wVar 0) (gStar false 2 1 (gCn (gNm 2) (gCn (gNm 3) gNl))))
  (sRet (wAndT (wOp inA (wVar 2) (wVar 1)) (wCa allR (wCons (wLc false (iVal (wVar 3)) (gNm 4) tYesP (wOp inSR (wVar 4) (wC (.str "abcdefghijklmnopqrstuvwxyz"))) [4]) wNil)))))
theorem c_is_spelt (hlv : 1 ≤ lv) {L s : Str} {c : Nat} {r : List Nat} (e : s.cps.toList = c :: r) (hr : ∀ x ∈ r, x ∈ small.cps.toList) (hl : r.length ≤ 5) (q : Q (.bl (decide (c ∈ L.cps.toList))) st) : Sem (prog fa) lv F_is_spelt [.str s, .str L] st Q := by
  obtain ⟨lv, rfl⟩ : ∃ j, lv = j + 1 := ⟨lv - 1, by omega⟩
  refine go_is_spelt ?_
  have hs : s.length = r.length + 1 := by rw [← len_list, e]; rfl
  have big : (100 : Nat) ≤ sizeLine := by decide
  have hsg : signsP s = PV.str ⟨#[c]⟩ :: r.map fun c => PV.str ⟨#[c]⟩ := by unfold signsP; rw [e]; rfl
  have hlen : (signsP s).length = r.length + 1 := by rw [hsg]; simp
  show (sSeq _ isp2) _ _ _
  have tail : isp2 { nx := fun x st' => Q PV.non st', rt := Q } [some (PV.str s), some (PV.str L), none, none, none] st := by
    simp only [isp2, gStar, unpS, wAndT, wLc, iVal, wipeP, sSeq, sIf, sAsg, sRet, sRetN, sNext, sDrop, gNm, gIx, gTp, gCn, gNl, tValP, tTru, truP, tNotP, tAndP, tOrP, wOp, wVar, wC, wCa, wCons, wNil, wTup, wLst, wIf, wCall, wNeg, startP, List.map_cons, List.map_nil, List.cons_append, List.nil_append, List.getElem?_cons_zero, List.getElem?_cons_succ, List.length_cons, List.length_nil, Nat.reduceAdd, Nat.reduceSub, List.replicate_succ, List.replicate_zero, List.set_cons_zero, List.set_cons_succ, Option.some.injEq, exists_eq_left', PV.bl.injEq, PV.int.injEq, PV.str.injEq, PV.ref.injEq, PV.tup.injEq, PV.lst.injEq, Cell.lst.injEq, List.cons.injEq, and_true, true_and, exists_and_left, r_add, r_adds, r_addt, r_addl, r_sub, r_mul, r_fdiv, r_mod, r_pow, r_lt, r_le, r_gt, r_ge, r_eqi, r_nei, r_eqs, r_nes, r_inti, r_intb, r_ixr, r_ixl, r_ixt, r_newt, r_newf, atI_0, atI_1, atI_2, decide_eq_true_eq]
    refine ⟨by omega, by omega, .str ⟨#[c]⟩, [.lst (r.map fun c => PV.str ⟨#[c]⟩)], ?_, _, _, rfl, rfl, c, L, rfl, rfl, _, rfl, ?_⟩
    · rw [hlen, hsg, show r.length + 1 + 1 - 2 = r.length by omega]
      simp
      exact List.take_of_length_le (by simp)
    · by_cases hc : c ∈ L.cps.toList
      · rw [decide_eq_true hc] at q ⊢
        rw [if_pos rfl]
        refine ⟨_, rfl, ?_⟩
        refine signs_in (bs := []) (by simp) r st _ (fun _ => trivial) hr (by simp) (by simp; omega) fun bs hb => ?_
        refine ⟨_, bs, rfl, rfl, ?_⟩
        rw [show bs.all id = true by simpa using hb]
        exact q
      · rw [decide_eq_false hc] at q ⊢
        rw [if_neg Bool.false_ne_true]
        exact q
  generalize isp2 = T at tail ⊢
  simp only [wIsi, tyP, isiB, tChainP, sSeq, sIf, sAsg, sRet, sRetN, sNext, sDrop, gNm, gIx, gTp, gCn, gNl, tValP, tTru, truP, tNotP, tAndP, tOrP, wOp, wVar, wC, wCa, wCons, wNil, wTup, wLst, wIf, wCall, wNeg, startP, List.map_cons, List.map_nil, List.cons_append, List.nil_append, List.getElem?_cons_zero, List.getElem?_cons_succ, List.length_cons, List.length_nil, Nat.reduceAdd, Nat.reduceSub, List.replicate_succ, List.replicate_zero, List.set_cons_zero, List.set_cons_succ, Option.some.injEq, exists_eq_left', PV.bl.injEq, PV.int.injEq, PV.str.injEq, PV.ref.injEq, PV.tup.injEq, PV.lst.injEq, Cell.lst.injEq, List.cons.injEq, and_true, true_and, exists_and_left, r_add, r_adds, r_addt, r_addl, r_sub, r_mul, r_fdiv, r_mod, r_pow, r_lt, r_le, r_gt, r_ge, r_eqi, r_nei, r_eqs, r_nes, r_inti, r_intb, r_ixr, r_ixl, r_ixt, r_newt, r_newf, atI_0, atI_1, atI_2, decide_eq_true_eq]
  refine ⟨_, rfl, ?_⟩
  simp only [beq_self_eq_true, if_true, Bool.not_true, Bool.false_eq_true, if_false, r_lens, r_le, PV.bl.injEq, exists_eq_left']
  refine ⟨by omega, ?_⟩
  rw [if_pos (by simp; omega)]
  rw [if_neg (by simp; omega)]
  exact tail
end
end K20
set_option maxHeartbeats 40000000
namespace K20
open PySem PySem.Spec L2 Pv PySem.W
variable {fa : Nat → Addr}
section
variable {lv : Nat} {st : Sto} {Q : PV → Sto → Prop}
theorem signs_eq {s : Str} {c : Nat} {r : List Nat} (e : s.cps.toList = c :: r) : signsP s = PV.str ⟨#[c]⟩ :: r.map fun c => PV.str ⟨#[c]⟩ := by unfold signsP; rw [e]; rfl
def signB : PV → Bool
  | .str z => z.cps.toList.all fun x => decide (x ∈ small.cps.toList)
  | _ => false
theorem signB_all (r : List Nat) : ((r.map fun c => PV.str ⟨#[c]⟩).map signB).all id = r.all fun x => decide (x ∈ small.cps.toList) := by
  induction r with
  | nil => rfl
  | cons c r ih =>
    simp only [List.map_cons, List.all_cons, ih]
    simp [signB]
theorem c_spelt_any (hlv : 1 ≤ lv) {x : PV} {L : Str} (hx : noR x = true) (hz : ∀ s, x = .str s → s.length ≤ 500000) (q : Q (.bl (spV L x)) st) : Sem (prog fa) lv F_is_spelt [x, .str L] st Q := by
  obtain ⟨lv, rfl⟩ : ∃ j, lv = j + 1 := ⟨lv - 1, by omega⟩
  refine go_is_spelt ?_
  have big : sizeLine = 16777216 := rfl
  cases x with
  | ref n => cases hx
  | ptp n => cases hx
  | fn n => cases hx
  | ins _ _ _ => cases hx
  | str s =>
    have hs := hz s rfl
    have hll : s.cps.toList.length = s.length := len_list s
    show (sSeq _ isp2) _ _ _
    have tail : 1 ≤ s.length → s.length ≤ 6 → isp2 { nx := fun x st' => Q PV.non st', rt := Q } [some (PV.str s), some (PV.str L), none, none, none] st := fun g1 g2 => by
      cases e : s.cps.toList with
      | nil => rw [e] at hll; simp at hll; omega
      | cons c r =>
        rw [e] at hll; simp only [List.length_cons] at hll
        have hsg := signs_eq e
        have hlen : (signsP s).length = r.length + 1 := by rw [hsg]; simp
        have ev : spV L (.str s) = (decide (c ∈ L.cps.toList) && r.all fun x => decide (x ∈ small.cps.toList)) := by
          simp only [spV, spB, e]
          rw [decide_eq_true (by omega), Bool.true_and]
        rw [ev] at q
        simp only [isp2, gStar, unpS, wAndT, wLc, iVal, wipeP, sSeq, sIf, sAsg, sRet, sRetN, sNext, sDrop, gNm, gIx, gTp, gCn, gNl, tValP, tTru, truP, tNotP, tAndP, tOrP, wOp, wVar, wC, wCa, wCons, wNil, wTup, wLst, wIf, wCall, wNeg, startP, List.map_cons, List.map_nil, List.cons_append, List.nil_append, List.getElem?_cons_zero, List.getElem?_cons_succ, List.length_cons, List.length_nil, Nat.reduceAdd, Nat.reduceSub, List.replicate_succ, List.replicate_zero, List.set_cons_zero, List.set_cons_succ, Option.some.injEq, exists_eq_left', PV.bl.injEq, PV.int.injEq, PV.str.injEq, PV.ref.injEq, PV.tup.injEq, PV.lst.injEq, Cell.lst.injEq, List.cons.injEq, and_true, true_and, exists_and_left, r_add, r_adds, r_addt, r_addl, r_sub, r_mul, r_fdiv, r_mod, r_pow, r_lt, r_le, r_gt, r_ge, r_eqi, r_nei, r_eqs, r_nes, r_inti, r_intb, r_ixr, r_ixl, r_ixt, r_newt, r_newf, atI_0, atI_1, atI_2, decide_eq_true_eq]
        refine ⟨by omega, by omega, .str ⟨#[c]⟩, [.lst (r.map fun c => PV.str ⟨#[c]⟩)], ?_, _, _, rfl, rfl, c, L, rfl, rfl, _, rfl, ?_⟩
        · rw [hlen, hsg, show r.length + 1 + 1 - 2 = r.length by omega]
          simp
          exact List.take_of_length_le (by simp)
        · by_cases hc : c ∈ L.cps.toList
          · rw [decide_eq_true hc] at q ⊢
            rw [if_pos rfl]
            refine ⟨_, rfl, ?_⟩
            refine lc_bls (acc := []) signB _ _ trivial (fun y my Q' q' => ?_) (by simp; omega) ?_
            · obtain ⟨z, _, rfl⟩ := List.mem_map.mp my
              simp only [gNm, wOp, wVar, wC]
              refine ⟨_, rfl, z, small, rfl, rfl, ?_⟩
              have : signB (.str ⟨#[z]⟩) = decide (z ∈ small.cps.toList) := by simp [signB]
              rw [this] at q'
              exact q'
            · rw [List.nil_append]
              refine all_r ?_
              rw [signB_all]
              exact q
          · rw [decide_eq_false hc] at q ⊢
            rw [if_neg Bool.false_ne_true]
            exact q
    have no : (s.length = 0 ∨ 7 ≤ s.length) → spV L (.str s) = false := fun h => by
      simp only [spV, spB]
      cases e : s.cps.toList with
      | nil => rfl
      | cons c r =>
        rw [e] at hll; simp only [List.length_cons] at hll
        simp only []
        rw [decide_eq_false (by omega), Bool.false_and]
    generalize isp2 = T at tail ⊢
    simp only [wIsi, tyP, isiB, tChainP, sSeq, sIf, sAsg, sRet, sRetN, sNext, sDrop, gNm, gIx, gTp, gCn, gNl, tValP, tTru, truP, tNotP, tAndP, tOrP, wOp, wVar, wC, wCa, wCons, wNil, wTup, wLst, wIf, wCall, wNeg, startP, List.map_cons, List.map_nil, List.cons_append, List.nil_append, List.getElem?_cons_zero, List.getElem?_cons_succ, List.length_cons, List.length_nil, Nat.reduceAdd, Nat.reduceSub, List.replicate_succ, List.replicate_zero, List.set_cons_zero, List.set_cons_succ, Option.some.injEq, exists_eq_left', PV.bl.injEq, PV.int.injEq, PV.str.injEq, PV.ref.injEq, PV.tup.injEq, PV.lst.injEq, Cell.lst.injEq, List.cons.injEq, and_true, true_and, exists_and_left, r_add, r_adds, r_addt, r_addl, r_sub, r_mul, r_fdiv, r_mod, r_pow, r_lt, r_le, r_gt, r_ge, r_eqi, r_nei, r_eqs, r_nes, r_inti, r_intb, r_ixr, r_ixl, r_ixt, r_newt, r_newf, atI_0, atI_1, atI_2, decide_eq_true_eq]
    refine ⟨_, rfl, ?_⟩
    simp only [beq_self_eq_true, if_true, Bool.not_true, Bool.false_eq_true, if_false, r_lens, r_le, PV.bl.injEq, exists_eq_left']
    refine ⟨by omega, ?_⟩
    by_cases h0 : s.length = 0
    · rw [if_neg (by simp; omega)]
      rw [no (.inl h0)] at q
      simpa using q
    · rw [if_pos (by simp; omega)]
      by_cases h7 : 7 ≤ s.length
      · rw [no (.inr h7)] at q
        rw [if_pos (by simp; omega)]
        exact q
      · rw [if_neg (by simp; omega)]
        exact tail (by omega) (by omega)
  | _ =>
    show (sSeq _ isp2) _ _ _
    generalize isp2 = T
    simp only [wIsi, tyP, isiB, tChainP, sSeq, sIf, sAsg, sRet, sRetN, sNext, sDrop, gNm, gIx, gTp, gCn, gNl, tValP, tTru, truP, tNotP, tAndP, tOrP, wOp, wVar, wC, wCa, wCons, wNil, wTup, wLst, wIf, wCall, wNeg, startP, List.map_cons, List.map_nil, List.cons_append, List.nil_append, List.getElem?_cons_zero, List.getElem?_cons_succ, List.length_cons, List.length_nil, Nat.reduceAdd, Nat.reduceSub, List.replicate_succ, List.replicate_zero, List.set_cons_zero, List.set_cons_succ, Option.some.injEq, exists_eq_left', PV.bl.injEq, PV.int.injEq, PV.str.injEq, PV.ref.injEq, PV.tup.injEq, PV.lst.injEq, Cell.lst.injEq, List.cons.injEq, and_true, true_and, exists_and_left, r_add, r_adds, r_addt, r_addl, r_sub, r_mul, r_fdiv, r_mod, r_pow, r_lt, r_le, r_gt, r_ge, r_eqi, r_nei, r_eqs, r_nes, r_inti, r_intb, r_ixr, r_ixl, r_ixt, r_newt, r_newf, atI_0, atI_1, atI_2, decide_eq_true_eq]
    exact q
end
section
variable {lv : Nat} {st : Sto} {Q : PV → Sto → Prop}
theorem c_unk22 (hlv : 2 ≤ lv) {x : PV} (hx : noR x = true) (hz : ∀ s, x = .str s → s.length ≤ 500000) (q : Q (.bl (spV great x)) st) : Sem (prog fa) lv F_is_unknown [x] st Q := by
  obtain ⟨lv, rfl⟩ : ∃ j, lv = j + 1 := ⟨lv - 1, by omega⟩
  refine go_is_unknown ?_
  simp only [w_is_unknown, sSeq, sIf, sAsg, sRet, sRetN, sNext, sDrop, gNm, gIx, gTp, gCn, gNl, tValP, tTru, truP, tNotP, tAndP, tOrP, wOp, wVar, wC, wCa, wCons, wNil, wTup, wLst, wIf, wCall, wNeg, startP, List.map_cons, List.map_nil, List.cons_append, List.nil_append, List.getElem?_cons_zero, List.getElem?_cons_succ, List.length_cons, List.length_nil, Nat.reduceAdd, Nat.reduceSub, List.replicate_succ, List.replicate_zero, List.set_cons_zero, List.set_cons_succ, Option.some.injEq, exists_eq_left', PV.bl.injEq, PV.int.injEq, PV.str.injEq, PV.ref.injEq, PV.tup.injEq, PV.lst.injEq, Cell.lst.injEq, List.cons.injEq, and_true, true_and, exists_and_left, r_add, r_adds, r_addt, r_addl, r_sub, r_mul, r_fdiv, r_mod, r_pow, r_lt, r_le, r_gt, r_ge, r_eqi, r_nei, r_eqs, r_nes, r_inti, r_intb, r_ixr, r_ixl, r_ixt, r_newt, r_newf, atI_0, atI_1, atI_2, decide_eq_true_eq]
  exact c_spelt_any (by omega) hx hz q
end
end K20
namespace K20
open PySem PySem.Spec L2 Pv PySem.W
variable {fa : Nat → Addr}
section
variable {lv : Nat} {st : Sto} {Q : PV → Sto → Prop}
def ptP (p : Str × List (List Nat)) : PV := .tup [.str p.1, sqP p.2]
def fmP (C : Addr) (b : List Nat) (P : PV) : PV := .ins C ["base", "parts"] [iR b, P]
end
end K20
namespace K20
open PySem PySem.Spec L2 Pv PySem.W
variable {fa : Nat → Addr}
section
variable {lv : Nat} {st : Sto} {Q : PV → Sto → Prop}
theorem row_iR {b : List Nat} (h1 : 1 ≤ b.length) (h3 : b.length ≤ 3) : rowV (iR b) = true := by
  match b, h1, h3 with
  | [_], _, _ => simp [iR, rowV, natV]
  | [_, _], _, _ => simp [iR, rowV, natV]
  | [_, _, _], _, _ => simp [iR, rowV, natV]
theorem c_init (hlv : 4 ≤ lv) {b : List Nat} {P : PV} {xs : List PV} (hP : P = .ptp xs ∨ P = .tup xs) (hR : ∀ st Q, Q (.bl true) st → Sem (prog fa) (lv - 1) F_is_row [iR b] st Q) (hA : ∀ st Q, Q (.bl true) st → Sem (prog fa) (lv - 1) F_are_parts [P, .int (b.length : Nat)] st Q) (hrb : rbV st.length P = true)
    (q : Q (fmP (fa 0) b P) st) : Sem (prog fa) (lv + 1) F_new_Form_2 [iR b, P] st Q := by
  refine go_new_Form_2 ?_
  refine ⟨_, rfl, _, rfl, _, rfl, rfl, ?_⟩
  obtain ⟨lv, rfl⟩ : ∃ j, lv = j + 1 := ⟨lv - 1, by omega⟩
  refine go_Form___init__ ?_
  simp only [w_Form___init__, wSetF, sSeq, sIf, sAsg, sRet, sRetN, sNext, sDrop, gNm, gIx, gTp, gCn, gNl, tValP, tTru, truP, tNotP, tAndP, tOrP, wOp, wVar, wC, wCa, wCons, wNil, wTup, wLst, wIf, wCall, wNeg, startP, List.map_cons, List.map_nil, List.cons_append, List.nil_append, List.getElem?_cons_zero, List.getElem?_cons_succ, List.length_cons, List.length_nil, Nat.reduceAdd, Nat.reduceSub, List.replicate_succ, List.replicate_zero, List.set_cons_zero, List.set_cons_succ, Option.some.injEq, exists_eq_left', PV.bl.injEq, PV.int.injEq, PV.str.injEq, PV.ref.injEq, PV.tup.injEq, PV.lst.injEq, Cell.lst.injEq, List.cons.injEq, and_true, true_and, exists_and_left, r_add, r_adds, r_addt, r_addl, r_sub, r_mul, r_fdiv, r_mod, r_pow, r_lt, r_le, r_gt, r_ge, r_eqi, r_nei, r_eqs, r_nes, r_inti, r_intb, r_ixr, r_ixl, r_ixt, r_newt, r_newf, atI_0, atI_1, atI_2, decide_eq_true_eq]
  have hb : rbV st.length (iR b) = true := by
    unfold iR
    simp only [rbV]
    clear q hR hA
    induction b with
    | nil => rfl
    | cons a as ih => simp only [List.map_cons, rbVs, rbV, ih, Bool.and_self]
  have fin : ∀ P : PV, rbV st.length P = true → Q (fmP (fa 0) b P) st → ∃ x x_1, (st ++ [Cell.ins (fa 0) [] []])[st.length]? = some (Cell.ins (fa 0) x x_1) ∧ ("base" : Str) ∉ x ∧ x.length < 1000 ∧ ∃ x_2 x_3, ((st ++ [Cell.ins (fa 0) [] []]).set st.length (Cell.ins (fa 0) (x ++ [("base" : Str)]) (x_1 ++ [iR b])))[st.length]? = some (Cell.ins (fa 0) x_2 x_3) ∧ ("parts" : Str) ∉ x_2 ∧ x_2.length < 1000 ∧
      ∃ ks ys, ((st ++ [Cell.ins (fa 0) [] []]).set st.length (Cell.ins (fa 0) (x ++ [("base" : Str)]) (x_1 ++ [iR b]))).set st.length (Cell.ins (fa 0) (x_2 ++ [("parts" : Str)]) (x_3 ++ [P])) = st ++ [Cell.ins (fa 0) ks ys] ∧ rbVs st.length ys = true ∧ Q (PV.ins (fa 0) ks ys) st := by
    intro P hr q
    refine ⟨[], [], by simp, by simp, by decide, ["base"], [iR b], by simp, by decide +kernel, by decide, ["base", "parts"], [iR b, P], by simp, by simp only [rbVs, hb, hr, Bool.and_self], q⟩
  rcases hP with rfl | rfl
  all_goals
    refine ⟨rfl, false, rfl, ?_⟩
    rw [if_neg (by decide)]
    refine hR _ _ ⟨true, rfl, ?_⟩
    rw [if_neg (by decide)]
    refine r_len (ys := b.map fun k : Nat => PV.int (k : Nat)) rfl ?_
    rw [List.length_map]
    refine hA _ _ ⟨true, rfl, ?_⟩
    rw [if_neg (by decide)]
    exact fin _ hrb q
end
end K20
set_option maxHeartbeats 4000000
namespace Pv
open PySem PySem.Spec L2
def lname : Trm → Str
  | .f s _ => s
  | .u s => s
def names (rs : List (Trm × Trm)) : List Str := rs.map fun r => lname r.1
def isCallB (C : List Str) : Trm → Bool
  | .f s _ => decide (s ∈ C)
  | .u _ => false
def pairsL (C : List Str) : Nat → List (Trm × Trm) → List (Nat × List Nat)
  | _, [] => []
  | k, r :: rs => ((parts r.2).filter fun p => isCallB C p.2).map (fun p => (k, p.1)) ++ pairsL C (k + 1) rs
def pairs (rs : List (Trm × Trm)) : List (Nat × List Nat) := pairsL (names rs) 0 rs
/-- from a place of the spot on -/
def partedG (C : List Str) (call left : Trm) (spot : List Nat) : Nat → Nat → Bool
  | _, 0 => false
  | k, m + 1 => match atT call (spot.take k), atT left (spot.take k) with
    | some (.f s _), some (.f s' _) => if (decide (0 < k) && decide (s ∈ C)) = true then false else if s = s' then partedG C call left spot (k + 1) m else k == spot.length
    | _, _ => false
def parted (C : List Str) (call left : Trm) (spot : List Nat) : Bool := partedG C call left spot 0 (spot.length + 1)
def apart (C : List Str) (call left : Trm) : Option (List Nat) := (spots call).find? (parted C call left)
theorem TE.at {sg : Sg} : ∀ {r : List Nat} {d : Nat} {t p : Trm}, TE sg d t → atT t r = some p → TE sg d p
  | [], d, t, p, h, e => by simp only [atT, Option.some.injEq] at e; subst e; exact h
  | j :: r, d, t, p, h, e => by
    simp only [atT] at e
    split at e
    · rename_i a ha
      obtain ⟨d', rfl, h'⟩ := h.arg (List.mem_of_getElem? ha)
      exact (TE.at h' e).up (Nat.le_succ _)
    · cases e
end Pv
namespace Pv
open PySem PySem.Spec L2 PySem.W
theorem eqv_ints : ∀ s t : List Nat, PyData.eqvAll (dats (s.map fun k : Nat => PV.int k)) (dats (t.map fun k : Nat => PV.int k)) = decide (s = t)
  | [], [] => rfl
  | [], _ :: _ => rfl
  | _ :: _, [] => rfl
  | a :: s, b :: t => by
    simp only [List.map_cons, dats, dat, PyData.eqvAll, PyData.eqv, eqv_ints s t, List.cons.injEq]
    by_cases e : a = b
    · subst e; simp
    · have : ¬ (a : Int) = (b : Int) := by omega
      simp [e, this]
end Pv
set_option maxHeartbeats 40000000
namespace K20
open PySem PySem.Spec L2 Pv PySem.W
variable {fa : Nat → Addr}
section
variable {lv : Nat} {st : Sto} {Q : PV → Sto → Prop}
def Shp (n : Nat) (s : List (List Nat)) : Prop := s.length = n ∧ ∀ r ∈ s, r.length = n
def zer (n : Nat) : List (List Nat) := List.replicate n (List.replicate n 0)
theorem mem_le_sum : ∀ {xs : List Nat} {x : Nat}, x ∈ xs → x ≤ xs.sum
  | a :: xs, x, m => by
    rw [List.sum_cons]
    rcases List.mem_cons.mp m with rfl | m
    · omega
    · have := mem_le_sum m; omega
theorem iR_data (r : List Nat) : PyData.canLayAll0 (dats (r.map fun k : Nat => PV.int k)) = true ∧ PyData.depthAll (dats (r.map fun k : Nat => PV.int k)) = 0 ∧ isDs (r.map fun k : Nat => PV.int k) = true := by
  have e : r.map (fun k : Nat => PV.int k) = pInts (r.map fun k : Nat => (k : Int)) := by unfold pInts; rw [List.map_map]; rfl
  rw [e]
  exact ⟨(ints_layZ _).1, (ints_layZ _).2, ints_isDZ _⟩
theorem sq_lay : ∀ s : List (List Nat), PyData.canLayAll0 (dats (s.map iR)) = true ∧ PyData.depthAll (dats (s.map iR)) ≤ 1 ∧ isDs (s.map iR) = true
  | [] => ⟨rfl, Nat.zero_le _, rfl⟩
  | r :: s => by
    obtain ⟨h1, h2, h3⟩ := sq_lay s
    obtain ⟨g1, g2, g3⟩ := iR_data r
    refine ⟨?_, ?_, ?_⟩
    · simp only [List.map_cons, dats, iR, dat, PyData.canLayAll0, PyData.canLay0, g1, Bool.true_and]; exact h1
    · simp only [List.map_cons, dats, iR, dat, PyData.depthAll, PyData.depth, g2]
      have : PyData.depthAll (dats (List.map iR s)) ≤ 1 := h2
      omega
    · simp only [List.map_cons, isDs, iR, isD, g3, Bool.true_and]; exact h3
theorem eqv_sq : ∀ s t : List (List Nat), PyData.eqvAll (dats (s.map iR)) (dats (t.map iR)) = decide (s = t)
  | [], [] => rfl
  | [], _ :: _ => rfl
  | _ :: _, [] => rfl
  | a :: s, b :: t => by
    have ih := eqv_sq s t
    simp only [List.map_cons, dats, iR, dat, PyData.eqvAll, PyData.eqv, eqv_ints a b, List.cons.injEq]
    rw [ih]
    by_cases e : a = b
    · subst e; simp
    · simp [e]
theorem eq_sq {s t : List (List Nat)} (q : Q (.bl (decide (s = t))) st) : eqA (sqP s) (sqP t) st Q := by
  have key : ∀ s : List (List Nat), datS st (sqP s) = some (.tuple (dats (s.map iR))) ∧ SeqAt.shaped (.tuple (dats (s.map iR))) = true := fun s => by
    obtain ⟨h1, h2, h3⟩ := sq_lay s
    refine ⟨by simp only [sqP, datS, isD, h3, if_true, dat], ?_⟩
    unfold SeqAt.shaped
    simp only [PyData.canLay0, PyData.depth, h1, Bool.true_and]
    exact decide_eq_true (by omega)
  show eqR (sqP s) (sqP t) st Q
  refine ⟨_, _, (key s).1, (key t).1, (key s).2, (key t).2, ?_⟩
  simp only [PyData.eqv, eqv_sq]
  exact q
theorem sq_ok {n : Nat} (h1 : 1 ≤ n) (h3 : n ≤ 3) {s : List (List Nat)} (h : Shp n s) : (∃ N, okV N (sqP s) = true) ∧ sqV (sqP s) = true := by
  refine ⟨⟨s.flatten.sum, ?_⟩, ?_⟩
  · simp only [sqP, okV, okVs_all, List.all_map, List.all_eq_true]
    intro r mr
    simp only [Function.comp_apply, iR, okV, okVs_all, List.all_map, List.all_eq_true]
    intro k mk
    simp only [Function.comp_apply, okV, Int.natAbs_natCast, decide_eq_true_eq]
    exact mem_le_sum (List.mem_flatten.mpr ⟨r, mr, mk⟩)
  · simp only [sqP, sqV, List.length_map, h.1, List.all_map]
    rw [decide_eq_true ⟨h1, h3⟩, Bool.true_and, List.all_eq_true]
    intro r mr
    have hl := h.2 r mr
    simp only [Function.comp_apply, iR, lenV, List.length_map, hl, decide_true, Bool.and_true]
    exact row_iR (by omega) (by omega)
theorem spelt_sp {L s : Str} (h : Spelt L s) : spB L s = true := by
  obtain ⟨c, r, h1, h2, h3, h4⟩ := h
  unfold spB
  rw [h1]
  simp only [Bool.and_eq_true, decide_eq_true_eq, List.all_eq_true]
  first | exact ⟨⟨h2, h3⟩, h4⟩ | exact ⟨h2, h3, h4⟩ | exact ⟨⟨h2, h4⟩, h3⟩ | exact ⟨h2, h4, h3⟩ | exact ⟨h4, h2, h3⟩ | exact ⟨⟨h4, h2⟩, h3⟩
/-- parts that are so, of a width -/
structure GoodP (n : Nat) (ps : List (Str × List (List Nat))) : Prop where
  len : ps.length ≤ 50
  ok : ∀ p ∈ ps, Spelt great p.1 ∧ Shp n p.2 ∧ p.2 ≠ zer n
  ris : ps.Pairwise fun p q => p.1.cps.toList < q.1.cps.toList
theorem zip_rise {α : Type} {f : α → Str} : ∀ {ps : List α}, (ps.Pairwise fun p q => (f p).cps.toList < (f q).cps.toList) → ∀ z ∈ ps.dropLast.zip (ps.drop 1), (f z.1).cps.toList < (f z.2).cps.toList
  | [], _, z, m => by simp at m
  | [_], _, z, m => by simp at m
  | a :: b :: r, h, z, m => by
    have h2 := List.pairwise_cons.mp h
    have m : z ∈ (a :: (b :: r).dropLast).zip (b :: r) := m
    rw [List.zip_cons_cons] at m
    rcases List.mem_cons.mp m with rfl | m
    · exact h2.1 b List.mem_cons_self
    · exact zip_rise h2.2 z (by simpa using m)
theorem cutL_last {α : Type} (xs : List α) : cutL xs none (some (-1)) = xs.dropLast := by
  unfold cutL
  cases xs with
  | nil => rfl
  | cons a r =>
    have e1 : HT.sIx (a :: r).length 0 none = 0 := rfl
    have e2 : HT.sIx (a :: r).length (a :: r).length (some (-1)) = r.length := by
      unfold HT.sIx
      simp only [List.length_cons]
      split <;> omega
    rw [e1, e2, List.dropLast_eq_take]; simp
theorem cutL_tail {α : Type} (xs : List α) : cutL xs (some 1) none = xs.drop 1 := by
  unfold cutL
  have e2 : HT.sIx xs.length xs.length none = xs.length := rfl
  have e1 : HT.sIx xs.length 0 (some 1) = min 1 xs.length := by
    unfold HT.sIx
    simp only
    split <;> omega
  rw [e1, e2]
  cases xs with
  | nil => rfl
  | cons a r => simp
theorem c_parts (hlv : 4 ≤ lv) {n : Nat} (h1 : 1 ≤ n) (h3 : n ≤ 3) {P : PV} {ps : List (Str × List (List Nat))} (hP : P = .ptp (ps.map ptP) ∨ P = .tup (ps.map ptP)) (hg : GoodP n ps) (q : Q (.bl true) st) : Sem (prog fa) lv F_are_parts [P, .int (n : Nat)] st Q := by
  obtain ⟨lv, rfl⟩ : ∃ j, lv = j + 1 := ⟨lv - 1, by omega⟩
  refine go_are_parts ?_
  have big : sizeLine = 16777216 := rfl
  simp only [w_are_parts, wIsi, tyP, isiB, sFor, iVal, wPq, sSeq, sIf, sAsg, sRet, sRetN, sNext, sDrop, gNm, gIx, gTp, gCn, gNl, tValP, tTru, truP, tNotP, tAndP, tOrP, wOp, wVar, wC, wCa, wCons, wNil, wTup, wLst, wIf, wCall, wNeg, startP, List.map_cons, List.map_nil, List.cons_append, List.nil_append, List.getElem?_cons_zero, List.getElem?_cons_succ, List.length_cons, List.length_nil, Nat.reduceAdd, Nat.reduceSub, List.replicate_succ, List.replicate_zero, List.set_cons_zero, List.set_cons_succ, Option.some.injEq, exists_eq_left', PV.bl.injEq, PV.int.injEq, PV.str.injEq, PV.ref.injEq, PV.tup.injEq, PV.lst.injEq, Cell.lst.injEq, List.cons.injEq, and_true, true_and, exists_and_left, r_add, r_adds, r_addt, r_addl, r_sub, r_mul, r_fdiv, r_mod, r_pow, r_lt, r_le, r_gt, r_ge, r_eqi, r_nei, r_eqs, r_nes, r_inti, r_intb, r_ixr, r_ixl, r_ixt, r_newt, r_newf, atI_0, atI_1, atI_2, decide_eq_true_eq]
  refine ⟨ps.map ptP, hP, ?_⟩
  simp only [beq_self_eq_true, Bool.true_or, Bool.not_true, Bool.false_eq_true, if_false]
  refine ⟨ps.map ptP, hP, _, rfl, ?_⟩
  refine for_ix (gg := ptP) (I := fun done env st' => (∃ e2 e3, env = [some P, some (.int (n : Nat)), e2, e3]) ∧ st' = st) (fun _ _ _ _ => trivial) ?_ ?_ ⟨⟨_, _, rfl⟩, rfl⟩
  · rintro env st' ⟨⟨e2, e3, rfl⟩, rfl⟩
    simp only [wLc, iZipP, wipeP, wSl, wPq, oNo, oSo, slR, sSeq, sIf, sAsg, sRet, sRetN, sNext, sDrop, gNm, gIx, gTp, gCn, gNl, tValP, tTru, truP, tNotP, tAndP, tOrP, wOp, wVar, wC, wCa, wCons, wNil, wTup, wLst, wIf, wCall, wNeg, startP, List.map_cons, List.map_nil, List.cons_append, List.nil_append, List.getElem?_cons_zero, List.getElem?_cons_succ, List.length_cons, List.length_nil, Nat.reduceAdd, Nat.reduceSub, List.replicate_succ, List.replicate_zero, List.set_cons_zero, List.set_cons_succ, Option.some.injEq, exists_eq_left', PV.bl.injEq, PV.int.injEq, PV.str.injEq, PV.ref.injEq, PV.tup.injEq, PV.lst.injEq, Cell.lst.injEq, List.cons.injEq, and_true, true_and, exists_and_left, r_add, r_adds, r_addt, r_addl, r_sub, r_mul, r_fdiv, r_mod, r_pow, r_lt, r_le, r_gt, r_ge, r_eqi, r_nei, r_eqs, r_nes, r_inti, r_intb, r_ixr, r_ixl, r_ixt, r_newt, r_newf, atI_0, atI_1, atI_2, decide_eq_true_eq]
    refine ⟨_, hP, _, .inr rfl, _, hP, _, .inr rfl, _, _, ⟨rfl, rfl⟩, _, _, .inl ⟨rfl, rfl⟩, ?_⟩
    rw [cutL_last, cutL_tail, ← List.map_dropLast, ← List.map_drop]
    have ez : ∀ as bs : List (Str × List (List Nat)), zipW (as.map ptP) (bs.map ptP) = (as.zip bs).map fun z => PV.tup [ptP z.1, ptP z.2] := fun as => by
      unfold zipW
      induction as with
      | nil => intro bs; rfl
      | cons a as ih => intro bs; cases bs with
        | nil => rfl
        | cons b bs => simp only [List.map_cons, List.zipWith_cons_cons, List.zip_cons_cons, ih]
    rw [ez]
    have hzl : (ps.dropLast.zip (ps.drop 1)).length ≤ 50 := by
      have := hg.len
      rw [List.length_zip, List.length_dropLast]; omega
    refine lc_fix (fun z : (Str × List (List Nat)) × (Str × List (List Nat)) => PV.tup [ptP z.1, ptP z.2]) (fun z => PV.bl true) _ [] _ ⟨trivial, trivial⟩ (fun z mz Q' q' => ?_) (by simp only [List.length_nil]; omega) ?_
    · refine ⟨_, rfl, rfl, _, _, rfl, _, _, rfl, rfl, ?_⟩
      simp only [gNm, ptP, ltR, sSeq, sIf, sAsg, sRet, sRetN, sNext, sDrop, gNm, gIx, gTp, gCn, gNl, tValP, tTru, truP, tNotP, tAndP, tOrP, wOp, wVar, wC, wCa, wCons, wNil, wTup, wLst, wIf, wCall, wNeg, startP, List.map_cons, List.map_nil, List.cons_append, List.nil_append, List.getElem?_cons_zero, List.getElem?_cons_succ, List.length_cons, List.length_nil, Nat.reduceAdd, Nat.reduceSub, List.replicate_succ, List.replicate_zero, List.set_cons_zero, List.set_cons_succ, Option.some.injEq, exists_eq_left', PV.bl.injEq, PV.int.injEq, PV.str.injEq, PV.ref.injEq, PV.tup.injEq, PV.lst.injEq, Cell.lst.injEq, List.cons.injEq, and_true, true_and, exists_and_left, r_add, r_adds, r_addt, r_addl, r_sub, r_mul, r_fdiv, r_mod, r_pow, r_lt, r_le, r_gt, r_ge, r_eqi, r_nei, r_eqs, r_nes, r_inti, r_intb, r_ixr, r_ixl, r_ixt, r_newt, r_newf, atI_0, atI_1, atI_2, decide_eq_true_eq]
      rw [decide_eq_true (zip_rise hg.ris z mz)]
      exact q'
    · rw [List.nil_append]
      have e : ((ps.dropLast.zip (ps.drop 1)).map fun z => PV.bl true) = pBls ((ps.dropLast.zip (ps.drop 1)).map fun z => true) := by unfold pBls; rw [List.map_map]; rfl
      rw [e]
      refine all_r ?_
      rw [List.all_map]
      have e2 : (ps.dropLast.zip (ps.drop 1)).all (id ∘ fun z => true) = true := List.all_eq_true.mpr fun _ _ => rfl
      rw [e2]
      exact q
  · rintro done p rest hx env st' K ⟨⟨e2, e3, rfl⟩, rfl⟩ hK
    have mp : p ∈ ps := by rw [hx]; simp
    obtain ⟨o1, o2, o3⟩ := hg.ok p mp
    obtain ⟨⟨N, ok1⟩, ok2⟩ := sq_ok h1 h3 o2
    simp only [gNm, ptP, wIsi, tyP, isiB, sSeq, sIf, sAsg, sRet, sRetN, sNext, sDrop, gNm, gIx, gTp, gCn, gNl, tValP, tTru, truP, tNotP, tAndP, tOrP, wOp, wVar, wC, wCa, wCons, wNil, wTup, wLst, wIf, wCall, wNeg, startP, List.map_cons, List.map_nil, List.cons_append, List.nil_append, List.getElem?_cons_zero, List.getElem?_cons_succ, List.length_cons, List.length_nil, Nat.reduceAdd, Nat.reduceSub, List.replicate_succ, List.replicate_zero, List.set_cons_zero, List.set_cons_succ, Option.some.injEq, exists_eq_left', PV.bl.injEq, PV.int.injEq, PV.str.injEq, PV.ref.injEq, PV.tup.injEq, PV.lst.injEq, Cell.lst.injEq, List.cons.injEq, and_true, true_and, exists_and_left, r_add, r_adds, r_addt, r_addl, r_sub, r_mul, r_fdiv, r_mod, r_pow, r_lt, r_le, r_gt, r_ge, r_eqi, r_nei, r_eqs, r_nes, r_inti, r_intb, r_ixr, r_ixl, r_ixt, r_newt, r_newf, atI_0, atI_1, atI_2, decide_eq_true_eq]
    rw [if_neg (by decide)]
    refine r_len (ys := [PV.str p.1, sqP p.2]) rfl (r_nei.mpr ⟨_, rfl, ?_⟩)
    rw [if_neg (by simp)]
    refine c_unk22 (by omega) rfl (fun s e => ?_) ⟨true, ?_⟩
    · cases e
      obtain ⟨c, r, e1, _, _, e4⟩ := o1
      show p.1.cps.size ≤ _
      rw [← Array.length_toList, e1, List.length_cons]; omega
    refine ⟨by show some (spB great p.1) = _; rw [spelt_sp o1], ?_⟩
    rw [if_neg (by decide)]
    refine c_square (by omega) ok1 ⟨true, ?_⟩
    refine ⟨by rw [ok2], ?_⟩
    rw [if_neg (by decide)]
    refine r_len (ys := p.2.map iR) rfl (r_nei.mpr ⟨_, rfl, ?_⟩)
    rw [List.length_map, o2.1, if_neg (by simp)]
    refine c_nought (by omega) h1 h3 (eq_sq ⟨_, rfl, ?_⟩)
    rw [if_neg (by simpa [zer] using o3)]
    exact hK _ _ ⟨⟨_, _, rfl⟩, rfl⟩
end
end K20
namespace K20
open PySem PySem.Spec L2 Pv PySem.W
variable {fa : Nat → Addr}
section
variable {lv : Nat} {st : Sto} {Q : PV → Sto → Prop}
abbrev Pts := List (Str × List (List Nat))
theorem rb_sq (m : Nat) : ∀ ps : Pts, rbVs m (ps.map ptP) = true := by
  have h1 : ∀ r : List Nat, rbVs m (r.map fun k : Nat => PV.int k) = true := fun r => by
    induction r with
    | nil => rfl
    | cons a r ih => simp only [List.map_cons, rbVs, rbV, ih, Bool.and_self]
  have h2 : ∀ s : List (List Nat), rbVs m (s.map iR) = true := fun s => by
    induction s with
    | nil => rfl
    | cons a r ih => simp only [List.map_cons, rbVs, iR, rbV, h1, Bool.true_and]; exact ih
  intro ps
  induction ps with
  | nil => rfl
  | cons a r ih => simp only [List.map_cons, rbVs, ptP, rbV, sqP, h2, Bool.and_true, Bool.true_and]; exact ih
theorem c_form (hlv : 7 ≤ lv) {b : List Nat} {ps : Pts} (h1 : 1 ≤ b.length) (h3 : b.length ≤ 3) (hg : GoodP b.length ps) (q : Q (fmP (fa 0) b (.ptp (ps.map ptP))) st) : Sem (prog fa) lv F_new_Form_2 [iR b, .ptp (ps.map ptP)] st Q := by
  obtain ⟨lv, rfl⟩ : ∃ j, lv = j + 1 := ⟨lv - 1, by omega⟩
  refine c_init (by omega) (.inl rfl) (fun st Q q => ?_) (fun st Q q => c_parts (by omega) h1 h3 (.inl rfl) hg q) (by simp only [rbV]; exact rb_sq _ _) q
  obtain ⟨N, hN⟩ : ∃ N, okV N (iR b) = true := by
    refine ⟨b.sum, ?_⟩
    simp only [iR, okV, okVs_all, List.all_map, List.all_eq_true]
    intro k mk
    simp only [Function.comp_apply, okV, Int.natAbs_natCast, decide_eq_true_eq]
    exact mem_le_sum mk
  exact c_row (by omega) hN (by rw [row_iR h1 h3]; exact q)
theorem nz_iff {n : Nat} {s : List (List Nat)} (hs : Shp n s) : s ≠ zer n ↔ ∃ r ∈ s, ∃ k ∈ r, k ≠ 0 := by
  constructor
  · intro h
    refine Classical.byContradiction fun hc => h ?_
    have h0 : ∀ r ∈ s, r = List.replicate n 0 := fun r mr => List.eq_replicate_iff.mpr ⟨hs.2 r mr, fun k mk => Classical.byContradiction fun hk => hc ⟨r, mr, k, mk, hk⟩⟩
    exact List.eq_replicate_iff.mpr ⟨hs.1, h0⟩
  · rintro ⟨r, mr, k, mk, hk⟩ rfl
    have := List.eq_of_mem_replicate mr
    subst this
    exact hk (List.eq_of_mem_replicate mk)
theorem GoodP.nd {n : Nat} {ps : Pts} (h : GoodP n ps) : (ps.map (·.1)).Nodup := List.pairwise_map.mpr (h.ris.imp fun {a b} hab e => by rw [e] at hab; exact List.lt_irrefl _ hab)
end
end K20
set_option maxHeartbeats 4000000
namespace K20
open PySem PySem.Spec L2 Pv PySem.W
variable {fa : Nat → Addr}
def D8 (st : Sto) (n m : Nat) : Prop := ∃ (a c : Int) (b : Nat), st[n]? = some (.lst [.int a, .int (b : Nat), .int c]) ∧ b ≤ m ∧ 0 ≤ c ∧ c < 4611686018427387904
theorem D8.gr {ds : List Nat} {st st' : Sto} {n m : Nat} (h : D8 st n m) (g : Gr ds st st') (hn : n ∉ ds) : D8 st' n m := let ⟨a, c, b, e, l⟩ := h; ⟨a, c, b, g.2 _ _ hn e, l⟩
theorem D8.gr0 {st st' : Sto} {n m : Nat} (h : D8 st n m) (g : Gr [] st st') : D8 st' n m := h.gr g (by simp)
theorem D8.up {st : Sto} {n m m' : Nat} (h : D8 st n m) (hm : m ≤ m') : D8 st n m' := let ⟨a, c, b, e, l, r⟩ := h; ⟨a, c, b, e, by omega, r⟩
theorem D8.lt {st : Sto} {n m : Nat} (h : D8 st n m) : n < st.length := let ⟨_, _, _, e, _⟩ := h; (List.getElem?_eq_some_iff.mp e).1
theorem c_deck18 {lv : Nat} (hlv : 1 ≤ lv) {ns : List Int} {i : Nat} (hi : i < 1000) {sto : Sto} {Q : PV → Sto → Prop} (hl : ns.length ≤ 1000) (k : ∀ n st', D8 st' n 0 → Gr [] sto st' → Q (.ref n) st') : Sem (prog fa) lv F_law_deck [.fls (pInts ns), .int (i : Nat)] sto Q := by
  obtain ⟨lv, rfl⟩ : ∃ j, lv = j + 1 := ⟨lv - 1, by omega⟩
  refine go_law_deck ?_
  have big : sizeLine = 16777216 := rfl
  have hsub : (cutL (pInts ns) (some (i : Int)) (some ((i : Int) + 1))).Sublist (pInts ns) := by
    unfold cutL
    exact (List.take_sublist _ _).trans (List.drop_sublist _ _)
  have hll := hsub.length_le
  have hpl : (pInts ns).length = ns.length := by simp [pInts]
  obtain ⟨c, hc⟩ : ∃ c : Int, atI (cutL (pInts ns) (some (i : Int)) (some ((i : Int) + 1)) ++ [PV.int (7 * (i : Int))]) 0 = some (.int c) := by
    cases e : cutL (pInts ns) (some (i : Int)) (some ((i : Int) + 1)) with
    | nil => exact ⟨_, atI_0⟩
    | cons v r =>
      have m : v ∈ pInts ns := hsub.subset (by rw [e]; simp)
      unfold pInts at m
      obtain ⟨c, _, rfl⟩ := List.mem_map.mp m
      exact ⟨c, atI_0⟩
  simp only [w_law_deck, wSl, oSo, sSeq, sIf, sAsg, sRet, sRetN, sNext, sDrop, gNm, gIx, gTp, gCn, gNl, tValP, tTru, truP, tNotP, tAndP, tOrP, wOp, wVar, wC, wCa, wCons, wNil, wTup, wLst, wIf, wCall, wNeg, startP, List.map_cons, List.map_nil, List.cons_append, List.nil_append, List.getElem?_cons_zero, List.getElem?_cons_succ, List.length_cons, List.length_nil, Nat.reduceAdd, Nat.reduceSub, List.replicate_succ, List.replicate_zero, List.set_cons_zero, List.set_cons_succ, Option.some.injEq, exists_eq_left', PV.bl.injEq, PV.int.injEq, PV.str.injEq, PV.ref.injEq, PV.tup.injEq, PV.lst.injEq, Cell.lst.injEq, List.cons.injEq, and_true, true_and, exists_and_left, r_add, r_adds, r_addt, r_addl, r_sub, r_mul, r_fdiv, r_mod, r_pow, r_lt, r_le, r_gt, r_ge, r_eqi, r_nei, r_eqs, r_nes, r_inti, r_intb, r_ixr, r_ixl, r_ixt, r_newt, r_newf, atI_0, atI_1, atI_2, decide_eq_true_eq]
  refine ⟨_, rfl, ?_⟩
  simp only [newL]
  refine ⟨.inl (by decide), by omega, _, _, rfl, rfl, by simp; omega, ?_⟩
  simp only [newL]
  refine ⟨0, rfl, _, _, rfl, hc, ?_⟩
  refine ⟨⟨by decide, by decide, by decide⟩, ?_⟩
  rw [r_ge, r_intb, r_mul]
  refine ⟨.inr (by split <;> decide), ?_⟩
  rw [r_mod]
  refine ⟨by decide, .inl (by decide), ?_⟩
  rw [r_add]
  have e1 := Int.emod_nonneg c (show (2305843009213693951 : Int) ≠ 0 by decide)
  have e2 := Int.emod_lt_of_pos c (show (0 : Int) < 2305843009213693951 by decide)
  exact ⟨by omega, k _ _ ⟨_, _, 0, new_at, Nat.le_refl _, by omega, by omega⟩ .new⟩
theorem c_draw18 {k : Nat} (hk : 1 ≤ k) {n m : Nat} {lim : Int} {sto : Sto} {Q : PV → Sto → Prop} (hd : D8 sto n m) (hmm : m ≤ 1000000) (hm : 0 < lim) (hm2 : lim < 1073741824) (kk : ∀ (v : Int) st', 0 ≤ v → v < lim → Gr [n] sto st' → D8 st' n (m + 1) → Q (.int v) st') : Sem (prog fa) k F_law_draw [.ref n, .int lim] sto Q := by
  obtain ⟨k, rfl⟩ : ∃ j, k = j + 1 := ⟨k - 1, by omega⟩
  refine go_law_draw ?_
  obtain ⟨a, c, b, hn, hb, c0, c1⟩ := hd
  have i0 : ixN 3 (0 : Int) = some 0 := by decide
  have i1 : ixN 3 (1 : Int) = some 1 := by decide
  simp only [w_law_draw, sSeq, sIf, sAsg, sRet, sRetN, sNext, sDrop, gNm, gIx, gTp, gCn, gNl, tValP, tTru, truP, tNotP, tAndP, tOrP, wOp, wVar, wC, wCa, wCons, wNil, wTup, wLst, wIf, wCall, wNeg, startP, List.map_cons, List.map_nil, List.cons_append, List.nil_append, List.getElem?_cons_zero, List.getElem?_cons_succ, List.length_cons, List.length_nil, Nat.reduceAdd, Nat.reduceSub, List.replicate_succ, List.replicate_zero, List.set_cons_zero, List.set_cons_succ, Option.some.injEq, exists_eq_left', PV.bl.injEq, PV.int.injEq, PV.str.injEq, PV.ref.injEq, PV.tup.injEq, PV.lst.injEq, Cell.lst.injEq, List.cons.injEq, and_true, true_and, exists_and_left, r_add, r_adds, r_addt, r_addl, r_sub, r_mul, r_fdiv, r_mod, r_pow, r_lt, r_le, r_gt, r_ge, r_eqi, r_nei, r_eqs, r_nes, r_inti, r_intb, r_ixr, r_ixl, r_ixt, r_newt, r_newf, atI_0, atI_1, atI_2, decide_eq_true_eq, hn]
  split
  · refine ⟨hm, ⟨hm, hm2⟩, 0, i0, ?_⟩
    exact kk _ _ (Int.emod_nonneg _ (by omega)) (Int.emod_lt_of_pos _ hm) (Gr.set (by simp)) ⟨_, c, b, set_at hn, by omega, c0, c1⟩
  · refine ⟨1, i1, ?_⟩
    have h2 : (sto.set n (.lst ([PV.int a, PV.int (b : Nat), PV.int c].set 1 (PV.int ((b : Nat) + 1)))))[n]? = some (.lst [PV.int a, PV.int ((b : Nat) + 1), PV.int c]) := set_at hn
    simp only [h2, Option.some.injEq, Cell.lst.injEq, exists_eq_left', atI_0, atI_1, atI_2, exists_and_left, r_add, r_sub, r_mul, r_fdiv, r_mod]
    have e1 := Int.emod_nonneg ((c + 104729 * ((b : Int) + 1) * ((b : Int) + 1) + 11) * 48271) (show (2305843009213693951 : Int) ≠ 0 by decide)
    have e2 := Int.emod_lt_of_pos ((c + 104729 * ((b : Int) + 1) * ((b : Int) + 1) + 11) * 48271) (show (0 : Int) < 2305843009213693951 by decide)
    generalize (c + 104729 * ((b : Int) + 1) * ((b : Int) + 1) + 11) * 48271 % 2305843009213693951 = x at e1 e2
    refine ⟨.inl (by decide), .inr ⟨by omega, by omega⟩, .inr (by decide), by decide, .inl ⟨by omega, by omega⟩, .inl (by decide), by decide, .inr (by decide), by decide, by decide, hm, ?_⟩
    exact kk _ _ (Int.emod_nonneg _ (by omega)) (Int.emod_lt_of_pos _ hm) (Gr.set (by simp)) ⟨a, c, b + 1, by rw [h2]; rfl, by omega, c0, c1⟩
end K20
namespace K20
open PySem PySem.Spec L2 Pv PySem.W
variable {fa : Nat → Addr}
def W8 (x : PV) : Prop := ∃ v : Int, x = .int v ∧ 0 ≤ v ∧ v ≤ 99
def Rw (s : Nat) (x : PV) : Prop := ∃ xs, x = .tup xs ∧ xs.length = s ∧ ∀ y ∈ xs, W8 y
def Sq (s : Nat) (x : PV) : Prop := ∃ xs, x = .tup xs ∧ xs.length = s ∧ ∀ r ∈ xs, Rw s r
theorem all2_q {R : PV → Prop} : ∀ {xs ys : List PV}, All2 (fun _ z => R z) xs ys → ys.length = xs.length ∧ ∀ z ∈ ys, R z
  | _, _, .nil => ⟨rfl, nofun⟩
  | _, _, .cons h t => by
    obtain ⟨a, b⟩ := all2_q t
    exact ⟨by simp [a], fun z m => (List.mem_cons.mp m).elim (fun e => e ▸ h) (b z)⟩
theorem c_number {lv : Nat} (hlv : 2 ≤ lv) {n m : Nat} {sto : Sto} {Q : PV → Sto → Prop} (hd : D8 sto n m) (hm : m ≤ 900000) (kk : ∀ x st', W8 x → Gr [n] sto st' → D8 st' n (m + 3) → Q x st') : Sem (prog fa) lv F_law_number [.ref n] sto Q := by
  obtain ⟨lv, rfl⟩ : ∃ j, lv = j + 1 := ⟨lv - 1, by omega⟩
  refine go_law_number ?_
  have big : sizeLine = 16777216 := rfl
  simp only [w_law_number, sSeq, sIf, sAsg, sRet, sRetN, sNext, sDrop, gNm, gIx, gTp, gCn, gNl, tValP, tTru, truP, tNotP, tAndP, tOrP, wOp, wVar, wC, wCa, wCons, wNil, wTup, wLst, wIf, wCall, wNeg, startP, List.map_cons, List.map_nil, List.cons_append, List.nil_append, List.getElem?_cons_zero, List.getElem?_cons_succ, List.length_cons, List.length_nil, Nat.reduceAdd, Nat.reduceSub, List.replicate_succ, List.replicate_zero, List.set_cons_zero, List.set_cons_succ, Option.some.injEq, exists_eq_left', PV.bl.injEq, PV.int.injEq, PV.str.injEq, PV.ref.injEq, PV.tup.injEq, PV.lst.injEq, Cell.lst.injEq, List.cons.injEq, and_true, true_and, exists_and_left, r_add, r_adds, r_addt, r_addl, r_sub, r_mul, r_fdiv, r_mod, r_pow, r_lt, r_le, r_gt, r_ge, r_eqi, r_nei, r_eqs, r_nes, r_inti, r_intb, r_ixr, r_ixl, r_ixt, r_newt, r_newf, atI_0, atI_1, atI_2, decide_eq_true_eq]
  refine ⟨by omega, ?_⟩
  refine c_draw18 (by omega) hd (by omega) (by decide) (by decide) fun a st1 a0 a1 g1 d1 => ?_
  refine c_draw18 (by omega) d1 (by omega) (by decide) (by decide) fun b st2 b0 b1 g2 d2 => ?_
  refine ⟨by omega, by omega, ?_⟩
  refine c_draw18 (by omega) d2 (by omega) (by decide) (by decide) fun v st3 v0 v1 g3 d3 => ?_
  obtain ⟨z, hz, mz⟩ := atI_of (xs := [PV.int 0, .int 0, .int 1, .int 1, .int 2, .int 9, .int 10, .int 99, .int a, .int b]) v0 (by simpa using v1)
  refine ⟨v, rfl, _, z, rfl, hz, kk z st3 ?_ ((g1.trans g2).trans g3) d3⟩
  simp only [List.mem_cons, List.not_mem_nil, or_false] at mz
  rcases mz with rfl | rfl | rfl | rfl | rfl | rfl | rfl | rfl | rfl | rfl
  all_goals exact ⟨_, rfl, by omega, by omega⟩
theorem c_lrowd {lv : Nat} (hlv : 3 ≤ lv) {n m s : Nat} (hs : s ≤ 3) {sto : Sto} {Q : PV → Sto → Prop} (hd : D8 sto n m) (hm : m ≤ 800000) (kk : ∀ x st', Rw s x → Gr [n] sto st' → D8 st' n (m + 9) → Q x st') : Sem (prog fa) lv F_law_row [.ref n, .int (s : Nat)] sto Q := by
  obtain ⟨lv, rfl⟩ : ∃ j, lv = j + 1 := ⟨lv - 1, by omega⟩
  refine go_law_row ?_
  have big : sizeLine = 16777216 := rfl
  simp only [w_law_row, wLc, iRg1, wipeP, sSeq, sIf, sAsg, sRet, sRetN, sNext, sDrop, gNm, gIx, gTp, gCn, gNl, tValP, tTru, truP, tNotP, tAndP, tOrP, wOp, wVar, wC, wCa, wCons, wNil, wTup, wLst, wIf, wCall, wNeg, startP, List.map_cons, List.map_nil, List.cons_append, List.nil_append, List.getElem?_cons_zero, List.getElem?_cons_succ, List.length_cons, List.length_nil, Nat.reduceAdd, Nat.reduceSub, List.replicate_succ, List.replicate_zero, List.set_cons_zero, List.set_cons_succ, Option.some.injEq, exists_eq_left', PV.bl.injEq, PV.int.injEq, PV.str.injEq, PV.ref.injEq, PV.tup.injEq, PV.lst.injEq, Cell.lst.injEq, List.cons.injEq, and_true, true_and, exists_and_left, r_add, r_adds, r_addt, r_addl, r_sub, r_mul, r_fdiv, r_mod, r_pow, r_lt, r_le, r_gt, r_ge, r_eqi, r_nei, r_eqs, r_nes, r_inti, r_intb, r_ixr, r_ixl, r_ixt, r_newt, r_newf, atI_0, atI_1, atI_2, decide_eq_true_eq]
  refine ⟨⟨by omega, by omega⟩, ?_⟩
  rw [show ((s : Nat) : Int).toNat = s by simp]
  refine lc_mapI [n] s (fun j st => D8 st n (m + 3 * j)) (fun _ y => W8 y) (fun _ _ _ => trivial) _ _ 0 _ _ (fun x hx j st Q' hj hI k' => ?_) hd (by rw [rgP_len]; simp) (by rw [rgP_len]; simp; omega) fun ys st1 hA d1 g1 => ?_
  · simp only [sSeq, sIf, sAsg, sRet, sRetN, sNext, sDrop, gNm, gIx, gTp, gCn, gNl, tValP, tTru, truP, tNotP, tAndP, tOrP, wOp, wVar, wC, wCa, wCons, wNil, wTup, wLst, wIf, wCall, wNeg, startP, List.map_cons, List.map_nil, List.cons_append, List.nil_append, List.getElem?_cons_zero, List.getElem?_cons_succ, List.length_cons, List.length_nil, Nat.reduceAdd, Nat.reduceSub, List.replicate_succ, List.replicate_zero, List.set_cons_zero, List.set_cons_succ, Option.some.injEq, exists_eq_left', PV.bl.injEq, PV.int.injEq, PV.str.injEq, PV.ref.injEq, PV.tup.injEq, PV.lst.injEq, Cell.lst.injEq, List.cons.injEq, and_true, true_and, exists_and_left, r_add, r_adds, r_addt, r_addl, r_sub, r_mul, r_fdiv, r_mod, r_pow, r_lt, r_le, r_gt, r_ge, r_eqi, r_nei, r_eqs, r_nes, r_inti, r_intb, r_ixr, r_ixl, r_ixt, r_newt, r_newf, atI_0, atI_1, atI_2, decide_eq_true_eq]
    exact c_number (by omega) hI (by omega) fun x st' hx g d => k' _ _ hx d g
  · obtain ⟨h1, h2⟩ := all2_q hA
    rw [rgP_len] at h1 d1
    rw [List.nil_append]
    refine ⟨_, ys, rfl, rfl, ?_⟩
    exact kk _ st1 ⟨ys, rfl, h1, h2⟩ g1 (d1.up (by omega))
theorem c_lsquared {lv : Nat} (hlv : 4 ≤ lv) {n m s : Nat} (hs : s ≤ 3) (hs1 : 1 ≤ s) {sto : Sto} {Q : PV → Sto → Prop} (hd : D8 sto n m) (hm : m ≤ 700000) (kk : ∀ x st', Sq s x → Gr [n] sto st' → D8 st' n (m + 28) → Q x st') : Sem (prog fa) lv F_law_square [.ref n, .int (s : Nat)] sto Q := by
  obtain ⟨lv, rfl⟩ : ∃ j, lv = j + 1 := ⟨lv - 1, by omega⟩
  refine go_law_square ?_
  have big : sizeLine = 16777216 := rfl
  simp only [w_law_square, wLc, iRg1, wipeP, sSeq, sIf, sAsg, sRet, sRetN, sNext, sDrop, gNm, gIx, gTp, gCn, gNl, tValP, tTru, truP, tNotP, tAndP, tOrP, wOp, wVar, wC, wCa, wCons, wNil, wTup, wLst, wIf, wCall, wNeg, startP, List.map_cons, List.map_nil, List.cons_append, List.nil_append, List.getElem?_cons_zero, List.getElem?_cons_succ, List.length_cons, List.length_nil, Nat.reduceAdd, Nat.reduceSub, List.replicate_succ, List.replicate_zero, List.set_cons_zero, List.set_cons_succ, Option.some.injEq, exists_eq_left', PV.bl.injEq, PV.int.injEq, PV.str.injEq, PV.ref.injEq, PV.tup.injEq, PV.lst.injEq, Cell.lst.injEq, List.cons.injEq, and_true, true_and, exists_and_left, r_add, r_adds, r_addt, r_addl, r_sub, r_mul, r_fdiv, r_mod, r_pow, r_lt, r_le, r_gt, r_ge, r_eqi, r_nei, r_eqs, r_nes, r_inti, r_intb, r_ixr, r_ixl, r_ixt, r_newt, r_newf, atI_0, atI_1, atI_2, decide_eq_true_eq]
  refine c_draw18 (by omega) hd (by omega) (by decide) (by decide) fun w st1 w0 w1 g1 d1 => ?_
  refine r_eqi.mpr ⟨_, rfl, ?_⟩
  have es : ((s : Nat) : Int).toNat = s := by simp
  split
  · refine ⟨by omega, ⟨nofun, by omega, by omega, by simp, ?_⟩⟩
    refine ⟨by omega, ⟨nofun, by omega, by omega, by simp, ?_⟩⟩
    refine kk _ st1 ⟨_, rfl, by rw [es]; simp, fun r mr => ?_⟩ g1 (d1.up (by omega))
    rw [es] at mr
    simp only [List.mem_flatten, List.mem_replicate] at mr
    obtain ⟨l, ⟨_, rfl⟩, ml⟩ := mr
    rw [List.mem_singleton] at ml
    subst ml
    refine ⟨_, rfl, by simp, fun y my => ?_⟩
    simp only [List.mem_flatten, List.mem_replicate] at my
    obtain ⟨l, ⟨_, rfl⟩, ml⟩ := my
    rw [List.mem_singleton] at ml
    exact ⟨0, ml, by decide, by decide⟩
  · refine r_eqi.mpr ⟨_, rfl, ?_⟩
    split
    · refine ⟨⟨by omega, by omega⟩, ?_⟩
      rw [es]
      refine lc_map [] (fun st => st = st1) (fun _ y => Rw s y) (fun _ _ => trivial) _ [] _ _ (fun x hx st2 Q' e k' => ?_) rfl (by rw [rgP_len]; simp; omega) fun ys st2 hA e g2 => ?_
      · subst e
        obtain ⟨k1, _, rfl⟩ := rgP_mem hx
        simp only [wLc, iRg1, wipeP, sSeq, sIf, sAsg, sRet, sRetN, sNext, sDrop, gNm, gIx, gTp, gCn, gNl, tValP, tTru, truP, tNotP, tAndP, tOrP, wOp, wVar, wC, wCa, wCons, wNil, wTup, wLst, wIf, wCall, wNeg, startP, List.map_cons, List.map_nil, List.cons_append, List.nil_append, List.getElem?_cons_zero, List.getElem?_cons_succ, List.length_cons, List.length_nil, Nat.reduceAdd, Nat.reduceSub, List.replicate_succ, List.replicate_zero, List.set_cons_zero, List.set_cons_succ, Option.some.injEq, exists_eq_left', PV.bl.injEq, PV.int.injEq, PV.str.injEq, PV.ref.injEq, PV.tup.injEq, PV.lst.injEq, Cell.lst.injEq, List.cons.injEq, and_true, true_and, exists_and_left, r_add, r_adds, r_addt, r_addl, r_sub, r_mul, r_fdiv, r_mod, r_pow, r_lt, r_le, r_gt, r_ge, r_eqi, r_nei, r_eqs, r_nes, r_inti, r_intb, r_ixr, r_ixl, r_ixt, r_newt, r_newf, atI_0, atI_1, atI_2, decide_eq_true_eq]
        refine ⟨⟨by omega, by omega⟩, ?_⟩
        rw [es]
        refine lc_map [] (fun st => st = st2) (fun _ y => W8 y) (fun _ _ => trivial) _ [] _ _ (fun z hz st3 Q2 e k2 => ?_) rfl (by rw [rgP_len]; simp; omega) fun zs st3 hB e g3 => ?_
        · subst e
          obtain ⟨k3, _, rfl⟩ := rgP_mem hz
          simp only [sSeq, sIf, sAsg, sRet, sRetN, sNext, sDrop, gNm, gIx, gTp, gCn, gNl, tValP, tTru, truP, tNotP, tAndP, tOrP, wOp, wVar, wC, wCa, wCons, wNil, wTup, wLst, wIf, wCall, wNeg, startP, List.map_cons, List.map_nil, List.cons_append, List.nil_append, List.getElem?_cons_zero, List.getElem?_cons_succ, List.length_cons, List.length_nil, Nat.reduceAdd, Nat.reduceSub, List.replicate_succ, List.replicate_zero, List.set_cons_zero, List.set_cons_succ, Option.some.injEq, exists_eq_left', PV.bl.injEq, PV.int.injEq, PV.str.injEq, PV.ref.injEq, PV.tup.injEq, PV.lst.injEq, Cell.lst.injEq, List.cons.injEq, and_true, true_and, exists_and_left, r_add, r_adds, r_addt, r_addl, r_sub, r_mul, r_fdiv, r_mod, r_pow, r_lt, r_le, r_gt, r_ge, r_eqi, r_nei, r_eqs, r_nes, r_inti, r_intb, r_ixr, r_ixl, r_ixt, r_newt, r_newf, atI_0, atI_1, atI_2, decide_eq_true_eq]
          refine k2 _ _ ?_ rfl .refl
          split
          · exact ⟨1, rfl, by decide, by decide⟩
          · exact ⟨0, rfl, by decide, by decide⟩
        · subst e
          obtain ⟨h1, h2⟩ := all2_q hB
          rw [rgP_len] at h1
          rw [List.nil_append]
          exact ⟨_, zs, rfl, rfl, k' _ _ ⟨zs, rfl, h1, h2⟩ rfl .refl⟩
      · subst e
        obtain ⟨h1, h2⟩ := all2_q hA
        rw [rgP_len] at h1
        rw [List.nil_append]
        exact ⟨_, ys, rfl, rfl, kk _ _ ⟨ys, rfl, h1, h2⟩ g1 (d1.up (by omega))⟩
    · refine ⟨⟨by omega, by omega⟩, ?_⟩
      rw [es]
      refine lc_mapI [n] s (fun j st => D8 st n (m + 1 + 9 * j)) (fun _ y => Rw s y) (fun _ _ _ => trivial) _ _ 0 _ _ (fun x hx j st Q' hj hI k' => ?_) d1 (by rw [rgP_len]; simp) (by rw [rgP_len]; simp; omega) fun ys st2 hA d2 g2 => ?_
      · simp only [sSeq, sIf, sAsg, sRet, sRetN, sNext, sDrop, gNm, gIx, gTp, gCn, gNl, tValP, tTru, truP, tNotP, tAndP, tOrP, wOp, wVar, wC, wCa, wCons, wNil, wTup, wLst, wIf, wCall, wNeg, startP, List.map_cons, List.map_nil, List.cons_append, List.nil_append, List.getElem?_cons_zero, List.getElem?_cons_succ, List.length_cons, List.length_nil, Nat.reduceAdd, Nat.reduceSub, List.replicate_succ, List.replicate_zero, List.set_cons_zero, List.set_cons_succ, Option.some.injEq, exists_eq_left', PV.bl.injEq, PV.int.injEq, PV.str.injEq, PV.ref.injEq, PV.tup.injEq, PV.lst.injEq, Cell.lst.injEq, List.cons.injEq, and_true, true_and, exists_and_left, r_add, r_adds, r_addt, r_addl, r_sub, r_mul, r_fdiv, r_mod, r_pow, r_lt, r_le, r_gt, r_ge, r_eqi, r_nei, r_eqs, r_nes, r_inti, r_intb, r_ixr, r_ixl, r_ixt, r_newt, r_newf, atI_0, atI_1, atI_2, decide_eq_true_eq]
        exact c_lrowd (by omega) hs hI (by omega) fun x st' hx g d => k' _ _ hx d g
      · obtain ⟨h1, h2⟩ := all2_q hA
        rw [rgP_len] at h1 d2
        rw [List.nil_append]
        exact ⟨_, ys, rfl, rfl, kk _ st2 ⟨ys, rfl, h1, h2⟩ (g1.trans g2) (d2.up (by omega))⟩
end K20
namespace K20
open PySem PySem.Spec L2 Pv PySem.W
variable {fa : Nat → Addr}
theorem join_cs {cs : List Nat} {st : Sto} {Q : PV → Sto → Prop} (h : cs.length ≤ 100) (k : Q (.str ⟨cs.toArray⟩) st) : joinR (.str (Str.ofString "")) [.lst (cs.map fun c => PV.str ⟨#[c]⟩)] st Q := by
  have big : sizeLine = 16777216 := rfl
  refine ⟨_, _, cs.map (fun c => ⟨#[c]⟩), rfl, rfl, by simp [seqP, lstP, lstS, pStrs, Function.comp_def], ?_, ?_⟩
  · have ee : (Str.ofString "").length = 0 := rfl
    rw [ee, Nat.mul_zero, List.map_map, sum_ones]; omega
  · rw [txt_join, join_signs]; exact k
theorem nodup_rng {α : Type} {f : Nat → α} {n : Nat} (h : ∀ i j, i < n → j < n → f i = f j → i = j) : ((List.range n).map f).Nodup := by
  refine List.pairwise_map.mpr ((List.pairwise_lt_range (n := n)).imp_of_mem fun {a b} ha hb hab e => ?_)
  have := h a b (List.mem_range.mp ha) (List.mem_range.mp hb) e
  omega
def Lt (i : Nat) : Nat := small.cps.toList.getD i 0
theorem Lt_at {i : Nat} (h : i < 26) : small.cps.toList[i]? = some (Lt i) := by
  obtain ⟨c, e, _⟩ := small_nth h
  simp only [Lt, List.getD_eq_getElem?_getD, e, Option.getD_some]
theorem Lt_in {i : Nat} (h : i < 26) : Lt i ∈ small.cps.toList := List.mem_of_getElem? (Lt_at h)
theorem Lt_inj {i j : Nat} (hi : i < 26) (hj : j < 26) (h : Lt i = Lt j) : i = j := small_nth_inj (h ▸ Lt_at hi) (Lt_at hj)
def wS (ws : List Nat) : Str := ⟨(ws.map Lt).toArray⟩
theorem wS_cps (ws : List Nat) : (wS ws).cps.toList = ws.map Lt := by simp [wS]
theorem wS_spelt {ws : List Nat} (h0 : ws ≠ []) (hl : ws.length ≤ 6) (hb : ∀ w ∈ ws, w < 26) : Spelt small (wS ws) := by
  cases ws with
  | nil => exact absurd rfl h0
  | cons w r =>
    refine ⟨Lt w, r.map Lt, by rw [wS_cps]; rfl, Lt_in (hb w List.mem_cons_self), fun x m => ?_, by simp only [List.length_map]; simp only [List.length_cons] at hl; omega⟩
    obtain ⟨y, my, rfl⟩ := List.mem_map.mp m
    exact Lt_in (hb y (List.mem_cons_of_mem _ my))
theorem wS_inj : ∀ {ws vs : List Nat}, (∀ w ∈ ws, w < 26) → (∀ w ∈ vs, w < 26) → wS ws = wS vs → ws = vs := fun {ws vs} h g e => by
  have e1 : ws.map Lt = vs.map Lt := by rw [← wS_cps, ← wS_cps, e]
  have key : ∀ (ws vs : List Nat), (∀ w ∈ ws, w < 26) → (∀ w ∈ vs, w < 26) → ws.map Lt = vs.map Lt → ws = vs := fun ws => by
    induction ws with
    | nil => intro vs _ _ e; cases vs with
      | nil => rfl
      | cons _ _ => cases e
    | cons a r ih => intro vs h g e; cases vs with
      | nil => cases e
      | cons b s =>
        simp only [List.map_cons, List.cons.injEq] at e
        rw [Lt_inj (h a List.mem_cons_self) (g b List.mem_cons_self) e.1, ih s (fun w m => h w (List.mem_cons_of_mem _ m)) (fun w m => g w (List.mem_cons_of_mem _ m)) e.2]
  exact key ws vs h g e1
def nInt (k : Nat) : PV := .int (k : Nat)
theorem nInts_of : ∀ {ys : List PV}, (∀ y ∈ ys, ∃ v : Nat, y = .int (v : Nat) ∧ v < 26) → ∃ ws : List Nat, ys = ws.map nInt ∧ ∀ w ∈ ws, w < 26
  | [], _ => ⟨[], rfl, nofun⟩
  | y :: ys, h => by
    obtain ⟨v, rfl, hv⟩ := h y List.mem_cons_self
    obtain ⟨ws, rfl, hw⟩ := nInts_of fun z m => h z (List.mem_cons_of_mem _ m)
    exact ⟨v :: ws, rfl, fun w m => by
      rcases List.mem_cons.mp m with rfl | m
      · exact hv
      · exact hw w m⟩
theorem ix_letter {i : Nat} (hi : i < 26) {st : Sto} {Q : PV → Sto → Prop} (q : Q (.str ⟨#[Lt i]⟩) st) : ixR (.str small) (.int (i : Nat)) st Q := by
  have big : sizeLine = 16777216 := rfl
  exact r_ixs.mpr ⟨Lt i, by rw [small_len, big]; decide, atI_nat (Lt_at hi), q⟩
/-- the text of a word's letters -/
theorem word_text {gd : Sto → Prop} {i : Nat} {env : Envp} {st : Sto} {Q : PV → Sto → Prop} {ws : List Nat} (hg : gd st) (hl : ws.length ≤ 6) (hb : ∀ w ∈ ws, w < 26) (hi : ∀ w, (env.set i (some w))[2]? = some (some (.str small))) (hw : ∀ w, (env.set i (some w))[i]? = some (some w))
    (q : Q (.str (wS ws)) st) : lcGo gd (gNm i) tYesP (wOp ixR (wVar 2) (wVar i)) env (ws.map nInt) [] st fun acc st2 => joinR (.str (Str.ofString "")) [.lst acc] st2 Q := by
  have big : sizeLine = 16777216 := rfl
  refine lc_fix nInt (fun w => PV.str ⟨#[Lt w]⟩) ws [] _ hg (fun a ma Q' q' => ?_) (by simp; omega) ?_
  · simp only [gNm, wOp, wVar]
    exact ⟨_, hi _, _, hw _, ix_letter (hb a ma) q'⟩
  · have e : ws.map (fun w => PV.str ⟨#[Lt w]⟩) = (ws.map Lt).map fun c => PV.str ⟨#[c]⟩ := by rw [List.map_map]; rfl
    rw [List.nil_append, e]
    exact join_cs (by rw [List.length_map]; omega) q
theorem c_words {lv : Nat} (hlv : 2 ≤ lv) {n m k : Nat} (hk : k ≤ 6) {sto : Sto} {Q : PV → Sto → Prop} (hd : D8 sto n m) (hm : m ≤ 900000) (kk : ∀ v ss st', lstP st' v = some (pStrs ss) → ss.length = k → (∀ s ∈ ss, Spelt small s) → ss.Nodup → (∀ i, v = .ref i → sto.length ≤ i) → Gr [n] sto st' → D8 st' n (m + 10) → Q v st') : Sem (prog fa) lv F_law_words [.ref n, .int (k : Nat)] sto Q := by
  obtain ⟨lv, rfl⟩ : ∃ j, lv = j + 1 := ⟨lv - 1, by omega⟩
  refine go_law_words ?_
  have big : sizeLine = 16777216 := rfl
  have e0 : (Str.ofString "abcdefghijklmnopqrstuvwxyz" : Str) = small := rfl
  have ek : ((k : Nat) : Int).toNat = k := by simp
  have hn0 := hd.lt
  simp only [w_law_words, wM, wLc, iRg1, iVal, wipeP, sFor, wSl, oNo, oSo, e0, sSeq, sIf, sAsg, sRet, sRetN, sNext, sDrop, gNm, gIx, gTp, gCn, gNl, tValP, tTru, truP, tNotP, tAndP, tOrP, wOp, wVar, wC, wCa, wCons, wNil, wTup, wLst, wIf, wCall, wNeg, startP, List.map_cons, List.map_nil, List.cons_append, List.nil_append, List.getElem?_cons_zero, List.getElem?_cons_succ, List.length_cons, List.length_nil, Nat.reduceAdd, Nat.reduceSub, List.replicate_succ, List.replicate_zero, List.set_cons_zero, List.set_cons_succ, Option.some.injEq, exists_eq_left', PV.bl.injEq, PV.int.injEq, PV.str.injEq, PV.ref.injEq, PV.tup.injEq, PV.lst.injEq, Cell.lst.injEq, List.cons.injEq, and_true, true_and, exists_and_left, r_add, r_adds, r_addt, r_addl, r_sub, r_mul, r_fdiv, r_mod, r_pow, r_lt, r_le, r_gt, r_ge, r_eqi, r_nei, r_eqs, r_nes, r_inti, r_intb, r_ixr, r_ixl, r_ixt, r_newt, r_newf, atI_0, atI_1, atI_2, decide_eq_true_eq]
  refine c_draw18 (by omega) hd (by omega) (by decide) (by decide) fun way st1 w0 w1 g1 d1 => ?_
  refine c_draw18 (by omega) d1 (by omega) (by decide) (by decide) fun fi st2 f0 f1 g2 d2 => ?_
  refine ⟨⟨by decide, by decide⟩, ?_⟩
  rw [show ((6 : Int)).toNat = 6 from rfl]
  refine lc_mapI [n] 6 (fun j st => D8 st n (m + 2 + j)) (fun _ y => ∃ v : Nat, y = .int (v : Nat) ∧ v < 26) (fun _ _ _ => trivial) _ _ 0 _ _ (fun x hx j st Q' hj hI k' => ?_) d2 (by rw [rgP_len]; simp) (by rw [rgP_len]; simp; omega) fun ys st3 hA d3 g3 => ?_
  · simp only [sSeq, sIf, sAsg, sRet, sRetN, sNext, sDrop, gNm, gIx, gTp, gCn, gNl, tValP, tTru, truP, tNotP, tAndP, tOrP, wOp, wVar, wC, wCa, wCons, wNil, wTup, wLst, wIf, wCall, wNeg, startP, List.map_cons, List.map_nil, List.cons_append, List.nil_append, List.getElem?_cons_zero, List.getElem?_cons_succ, List.length_cons, List.length_nil, Nat.reduceAdd, Nat.reduceSub, List.replicate_succ, List.replicate_zero, List.set_cons_zero, List.set_cons_succ, Option.some.injEq, exists_eq_left', PV.bl.injEq, PV.int.injEq, PV.str.injEq, PV.ref.injEq, PV.tup.injEq, PV.lst.injEq, Cell.lst.injEq, List.cons.injEq, and_true, true_and, exists_and_left, r_add, r_adds, r_addt, r_addl, r_sub, r_mul, r_fdiv, r_mod, r_pow, r_lt, r_le, r_gt, r_ge, r_eqi, r_nei, r_eqs, r_nes, r_inti, r_intb, r_ixr, r_ixl, r_ixt, r_newt, r_newf, atI_0, atI_1, atI_2, decide_eq_true_eq]
    refine c_draw18 (by omega) hI (by omega) (by decide) (by decide) fun v st' v0 v1 g d => k' _ _ ⟨v.toNat, ?_, by omega⟩ d g
    rw [show ((v.toNat : Nat) : Int) = v by omega]
  obtain ⟨h1, h2⟩ := all2_q hA
  rw [rgP_len] at h1 d3
  obtain ⟨ws, rfl, hwb⟩ := nInts_of h2
  rw [List.length_map] at h1
  clear hA h2
  have g13 := (g1.trans g2).trans g3
  simp only [newL, List.nil_append]
  obtain ⟨fn, rfl⟩ : ∃ z : Nat, fi = (z : Nat) := ⟨fi.toNat, by omega⟩
  have d4 : D8 (st3 ++ [Cell.lst (ws.map nInt)]) n (m + 8) := d3.gr0 .new
  have g4 : Gr [n] sto (st3 ++ [Cell.lst (ws.map nInt)]) := g13.trans .new
  have hp : (st3 ++ [Cell.lst (ws.map nInt)])[st3.length]? = some (.lst (ws.map nInt)) := new_at
  have hs3 : sto.length ≤ st3.length := g13.1
  generalize st3 ++ [Cell.lst (ws.map nInt)] = st4 at d4 g4 hp
  have hnp : n ≠ st3.length := by omega
  generalize st3.length = p at hp hnp hs3
  refine r_eqi.mpr ⟨_, rfl, ?_⟩
  have fin : ∀ (f : Nat → Str), (∀ i, i < k → Spelt small (f i)) → (∀ i j, i < k → j < k → f i = f j → i = j) → ((List.range k).map f).length = k ∧ (∀ s ∈ (List.range k).map f, Spelt small s) ∧ ((List.range k).map f).Nodup := fun f h1 h2 =>
    ⟨by simp, fun s ms => by obtain ⟨i, mi, rfl⟩ := List.mem_map.mp ms; exact h1 i (List.mem_range.mp mi), nodup_rng h2⟩
  have rgE : rgP 0 k = (List.range k).map fun i : Nat => PV.int (0 + (i : Nat)) := rfl
  by_cases hw0 : way = 0
  · subst hw0
    rw [if_pos (by decide)]
    refine ⟨⟨by omega, by omega⟩, ?_⟩
    rw [ek, rgE]
    obtain ⟨a, b, c⟩ := fin (fun i => wS [(fn + 3 * i) % 26]) (fun i hi => wS_spelt (by simp) (by simp) (by simp; omega)) fun i j hi hj e => by
      have := wS_inj (by simp; omega) (by simp; omega) e
      simp only [List.cons.injEq, and_true] at this
      omega
    refine lc_fix (fun i : Nat => PV.int (0 + (i : Nat))) (fun i => PV.str (wS [(fn + 3 * i) % 26])) (List.range k) [] _ trivial (fun i mi Q' q' => ?_) (by simp; omega) ?_
    · have mi := List.mem_range.mp mi
      simp only [sSeq, sIf, sAsg, sRet, sRetN, sNext, sDrop, gNm, gIx, gTp, gCn, gNl, tValP, tTru, truP, tNotP, tAndP, tOrP, wOp, wVar, wC, wCa, wCons, wNil, wTup, wLst, wIf, wCall, wNeg, startP, List.map_cons, List.map_nil, List.cons_append, List.nil_append, List.getElem?_cons_zero, List.getElem?_cons_succ, List.length_cons, List.length_nil, Nat.reduceAdd, Nat.reduceSub, List.replicate_succ, List.replicate_zero, List.set_cons_zero, List.set_cons_succ, Option.some.injEq, exists_eq_left', PV.bl.injEq, PV.int.injEq, PV.str.injEq, PV.ref.injEq, PV.tup.injEq, PV.lst.injEq, Cell.lst.injEq, List.cons.injEq, and_true, true_and, exists_and_left, r_add, r_adds, r_addt, r_addl, r_sub, r_mul, r_fdiv, r_mod, r_pow, r_lt, r_le, r_gt, r_ge, r_eqi, r_nei, r_eqs, r_nes, r_inti, r_intb, r_ixr, r_ixl, r_ixt, r_newt, r_newf, atI_0, atI_1, atI_2, decide_eq_true_eq]
      refine ⟨.inl ⟨by decide, by decide⟩, by decide, ?_⟩
      have e : ((fn : Int) + 3 * (0 + (i : Int))) % 26 = (((fn + 3 * i) % 26 : Nat) : Int) := by omega
      rw [e]
      exact ix_letter (by omega) q'
    · rw [List.nil_append]
      refine kk _ ((List.range k).map fun i => wS [(fn + 3 * i) % 26]) _ ?_ a b c nofun g4 (d4.up (by omega))
      simp only [lstP, lstS, pStrs, List.map_map]; rfl
  rw [if_neg (by simpa using hw0)]
  refine r_eqi.mpr ⟨_, rfl, ?_⟩
  have cutHi : ∀ i : Nat, cutL (ws.map nInt) none (some ((i : Nat) : Int)) = (ws.take i).map nInt := fun i => by rw [cutL_hi, List.map_take]
  by_cases hw1 : way = 1
  · subst hw1
    rw [if_pos (by decide), if_pos (by omega)]
    refine ⟨⟨by omega, by omega⟩, ?_⟩
    rw [ek, rgE]
    have tl : ∀ i, i < k → (ws.take (i + 1)).length = i + 1 := fun i hi => by rw [List.length_take]; omega
    have tb : ∀ i, ∀ w ∈ ws.take (i + 1), w < 26 := fun i w m => hwb w (List.mem_of_mem_take m)
    obtain ⟨a, b, c⟩ := fin (fun i => wS (ws.take (i + 1))) (fun i hi => wS_spelt (fun e => by have := tl i hi; rw [e] at this; cases this) (by rw [tl i hi]; omega) (tb i)) fun i j hi hj e => by
      have := congrArg List.length (wS_inj (tb i) (tb j) e)
      rw [tl i hi, tl j hj] at this
      omega
    refine lc_fix (fun i : Nat => PV.int (0 + (i : Nat))) (fun i => PV.str (wS (ws.take (i + 1)))) (List.range k) [] _ trivial (fun i mi Q' q' => ?_) (by simp; omega) ?_
    · have mi := List.mem_range.mp mi
      simp only [wM, wLc, iVal, itP, seqP, wSl, oNo, oSo, wipeP, slR, newL, sSeq, sIf, sAsg, sRet, sRetN, sNext, sDrop, gNm, gIx, gTp, gCn, gNl, tValP, tTru, truP, tNotP, tAndP, tOrP, wOp, wVar, wC, wCa, wCons, wNil, wTup, wLst, wIf, wCall, wNeg, startP, List.map_cons, List.map_nil, List.cons_append, List.nil_append, List.getElem?_cons_zero, List.getElem?_cons_succ, List.length_cons, List.length_nil, Nat.reduceAdd, Nat.reduceSub, List.replicate_succ, List.replicate_zero, List.set_cons_zero, List.set_cons_succ, Option.some.injEq, exists_eq_left', PV.bl.injEq, PV.int.injEq, PV.str.injEq, PV.ref.injEq, PV.tup.injEq, PV.lst.injEq, Cell.lst.injEq, List.cons.injEq, and_true, true_and, exists_and_left, r_add, r_adds, r_addt, r_addl, r_sub, r_mul, r_fdiv, r_mod, r_pow, r_lt, r_le, r_gt, r_ge, r_eqi, r_nei, r_eqs, r_nes, r_inti, r_intb, r_ixr, r_ixl, r_ixt, r_newt, r_newf, atI_0, atI_1, atI_2, decide_eq_true_eq]
      refine ⟨rfl, _, by simp only [lstP, lstS, hp]; rfl, _, rfl, ?_⟩
      have e : (0 + (i : Int) + 1) = ((i + 1 : Nat) : Int) := by omega
      rw [e, cutHi]
      exact word_text trivial (by rw [tl i mi]; omega) (tb i) (fun _ => rfl) (fun _ => rfl) q'
    · rw [List.nil_append]
      refine kk _ ((List.range k).map fun i => wS (ws.take (i + 1))) _ ?_ a b c nofun g4 (d4.up (by omega))
      simp only [lstP, lstS, pStrs, List.map_map]; rfl
  rw [if_neg (by simpa using hw1)]
  simp only [Bool.false_eq_true, if_false]
  refine c_draw18 (by omega) d4 (by omega) (by decide) (by decide) fun cu st5 cu0 cu1 g5 d5 => ?_
  obtain ⟨u, rfl⟩ : ∃ z : Nat, cu = (z : Nat) := ⟨cu.toNat, by omega⟩
  have hp5 : st5[p]? = some (.lst (ws.map nInt)) := g5.2 p _ (by simp; omega) hp
  have eu : (1 + (u : Int)) = ((u + 1 : Nat) : Int) := by omega
  simp only [slR, newL, r_add]
  refine ⟨_, rfl, _, by simp only [lstP, lstS, hp5]; rfl, ?_⟩
  rw [eu, cutHi]
  have hvl : (ws.take (u + 1)).length = u + 1 := by rw [List.length_take]; omega
  have hvb : ∀ w ∈ ws.take (u + 1), w < 26 := fun w m => hwb w (List.mem_of_mem_take m)
  generalize ws.take (u + 1) = vs at hvl hvb ⊢
  have d6 : D8 (st5 ++ [Cell.lst (vs.map nInt)]) n (m + 9) := d5.gr0 .new
  have g6 : Gr [n] sto (st5 ++ [Cell.lst (vs.map nInt)]) := (g4.trans g5).trans .new
  have hq : (st5 ++ [Cell.lst (vs.map nInt)])[st5.length]? = some (.lst (vs.map nInt)) := new_at
  have hs5 : sto.length ≤ st5.length := (g4.trans g5).1
  generalize st5 ++ [Cell.lst (vs.map nInt)] = st6 at d6 g6 hq ⊢
  have hnq : n ≠ st5.length := by omega
  generalize st5.length = q at hq hnq hs5 ⊢
  refine r_len (ys := vs.map nInt) (by simp only [seqP, lstP, lstS, hq]) ?_
  rw [List.length_map, hvl]
  refine c_draw18 (by omega) d6 (by omega) (by omega) (by omega) fun ai st7 a0 a1 g7 d7 => ?_
  obtain ⟨at_, rfl⟩ : ∃ z : Nat, ai = (z : Nat) := ⟨ai.toNat, by omega⟩
  have hat : at_ < vs.length := by omega
  have hq7 : st7[q]? = some (.lst (vs.map nInt)) := g7.2 q _ (by simp; omega) hq
  have g67 := g6.trans g7
  have d8 : D8 (st7 ++ [Cell.lst []]) n (m + 10) := d7.gr0 .new
  have g8 : Gr [n] sto (st7 ++ [Cell.lst []]) := g67.trans .new
  have hq8 : (st7 ++ [Cell.lst []])[q]? = some (.lst (vs.map nInt)) := (Gr.new (ds := [])).2 q _ (by simp) hq7
  have hf8 : (st7 ++ [Cell.lst []])[st7.length]? = some (.lst []) := new_at
  have hqf : q ≠ st7.length := by have := (List.getElem?_eq_some_iff.mp hq7).1; omega
  have hs7 : sto.length ≤ st7.length := g67.1
  refine ⟨by omega, ?_⟩
  generalize st7 ++ [Cell.lst []] = st8 at d8 g8 hq8 hf8 ⊢
  generalize st7.length = f at hf8 hqf hs7 ⊢
  have hnf : n ≠ f := by omega
  refine ⟨⟨by omega, by omega⟩, ?_⟩
  rw [ek]
  let V : Nat → List Nat := fun i => vs.set at_ ((vs.getD at_ 0 + i) % 26)
  have hV0 : V 0 = vs := by
    have hlt := hvb (vs[at_]) (List.getElem_mem hat)
    simp only [V, Nat.add_zero, List.getD_eq_getElem?_getD, List.getElem?_eq_getElem hat, Option.getD_some, Nat.mod_eq_of_lt hlt, List.set_getElem_self]
  have hVl : ∀ i, (V i).length = vs.length := fun i => by simp [V]
  have hVb : ∀ i, ∀ w ∈ V i, w < 26 := fun i w mw => by
    rcases List.mem_or_eq_of_mem_set mw with h | h
    · exact hvb w h
    · omega
  have hVa : ∀ i, (V i)[at_]? = some ((vs.getD at_ 0 + i) % 26) := fun i => by simp only [V]; rw [List.getElem?_set_self hat]
  have hVs : ∀ i, (V i).set at_ (((vs.getD at_ 0 + i) % 26 + 1) % 26) = V (i + 1) := fun i => by
    simp only [V, List.set_set]
    congr 1
    omega
  have hVi : ∀ i j, i < 26 → j < 26 → V i = V j → i = j := fun i j hi hj e => by
    have e1 := hVa i
    rw [e, hVa j] at e1
    have := Option.some.inj e1
    omega
  clear_value V
  refine for_range (N := k) (P := fun i env st => ∃ e5 e9, env = [some (.ref n), some (.int (k : Nat)), some (.str small), some (.int way), some (.int (fn : Nat)), e5, some (.ref q), some (.int (at_ : Nat)), some (.ref f), e9] ∧ Gr [q, f] st8 st ∧ st[q]? = some (.lst ((V i).map nInt)) ∧ st[f]? = some (.lst (pStrs ((List.range i).map fun j => wS (V (j + 1)))))) ?_ ?_ ⟨_, _, rfl, .refl, by rw [hV0]; exact hq8, hf8⟩
  · rintro env st ⟨e5, e9, rfl, g, hc, hcf⟩
    simp only [sSeq, sIf, sAsg, sRet, sRetN, sNext, sDrop, gNm, gIx, gTp, gCn, gNl, tValP, tTru, truP, tNotP, tAndP, tOrP, wOp, wVar, wC, wCa, wCons, wNil, wTup, wLst, wIf, wCall, wNeg, startP, List.map_cons, List.map_nil, List.cons_append, List.nil_append, List.getElem?_cons_zero, List.getElem?_cons_succ, List.length_cons, List.length_nil, Nat.reduceAdd, Nat.reduceSub, List.replicate_succ, List.replicate_zero, List.set_cons_zero, List.set_cons_succ, Option.some.injEq, exists_eq_left', PV.bl.injEq, PV.int.injEq, PV.str.injEq, PV.ref.injEq, PV.tup.injEq, PV.lst.injEq, Cell.lst.injEq, List.cons.injEq, and_true, true_and, exists_and_left, r_add, r_adds, r_addt, r_addl, r_sub, r_mul, r_fdiv, r_mod, r_pow, r_lt, r_le, r_gt, r_ge, r_eqi, r_nei, r_eqs, r_nes, r_inti, r_intb, r_ixr, r_ixl, r_ixt, r_newt, r_newf, atI_0, atI_1, atI_2, decide_eq_true_eq]
    obtain ⟨a, b, c⟩ := fin (fun i => wS (V (i + 1))) (fun i hi => wS_spelt (fun e => by have := hVl (i + 1); rw [e] at this; simp at this; omega) (by rw [hVl]; omega) (hVb _)) fun i j hi hj e => by
      have := hVi _ _ (by omega) (by omega) (wS_inj (hVb _) (hVb _) e)
      omega
    refine kk _ _ _ (by simp only [lstP, lstS, hcf]) a b c (fun i e => by cases e; exact hs7) ?_ (d8.gr g (by simp; omega))
    exact ⟨Nat.le_trans g8.1 g.1, fun i x mi e => g.2 i x (by have := (List.getElem?_eq_some_iff.mp e).1; simp; omega) (g8.2 i x mi e)⟩
  · rintro i env st K hi ⟨e5, e9, rfl, g, hc, hcf⟩ hK
    have hat' : atI ((V i).map nInt) ((at_ : Nat) : Int) = some (nInt ((vs.getD at_ 0 + i) % 26)) := atI_nat (by rw [List.getElem?_map, hVa]; rfl)
    simp only [gIx, wM, wLc, iVal, wipeP, sSeq, sIf, sAsg, sRet, sRetN, sNext, sDrop, gNm, gIx, gTp, gCn, gNl, tValP, tTru, truP, tNotP, tAndP, tOrP, wOp, wVar, wC, wCa, wCons, wNil, wTup, wLst, wIf, wCall, wNeg, startP, List.map_cons, List.map_nil, List.cons_append, List.nil_append, List.getElem?_cons_zero, List.getElem?_cons_succ, List.length_cons, List.length_nil, Nat.reduceAdd, Nat.reduceSub, List.replicate_succ, List.replicate_zero, List.set_cons_zero, List.set_cons_succ, Option.some.injEq, exists_eq_left', PV.bl.injEq, PV.int.injEq, PV.str.injEq, PV.ref.injEq, PV.tup.injEq, PV.lst.injEq, Cell.lst.injEq, List.cons.injEq, and_true, true_and, exists_and_left, r_add, r_adds, r_addt, r_addl, r_sub, r_mul, r_fdiv, r_mod, r_pow, r_lt, r_le, r_gt, r_ge, r_eqi, r_nei, r_eqs, r_nes, r_inti, r_intb, r_ixr, r_ixl, r_ixt, r_newt, r_newf, atI_0, atI_1, atI_2, decide_eq_true_eq]
    refine ⟨_, hc, _, hat', ?_⟩
    have hix : ixN ((V i).map nInt).length ((at_ : Nat) : Int) = some at_ := by
      have : ((V i).map nInt).length = vs.length := by rw [List.length_map, hVl]
      rw [this]
      exact ixN_nat hat
    have e1 : ((((vs.getD at_ 0 + i) % 26 : Nat) : Int) + 1) % 26 = ((((vs.getD at_ 0 + i) % 26 + 1) % 26 : Nat) : Int) := by omega
    show addR false (.int (((vs.getD at_ 0 + i) % 26 : Nat) : Int)) (.int 1) st _
    rw [r_add, r_mod]
    refine ⟨by decide, _, hc, at_, hix, ?_⟩
    rw [e1]
    have e2 : ((V i).map nInt).set at_ (.int ((((vs.getD at_ 0 + i) % 26 + 1) % 26 : Nat) : Int)) = (V (i + 1)).map nInt := by
      rw [← hVs i, List.map_set]; rfl
    rw [e2]
    have hc2 : (st.set q (.lst ((V (i + 1)).map nInt)))[q]? = some (.lst ((V (i + 1)).map nInt)) := set_at hc
    have hcf2 : (st.set q (.lst ((V (i + 1)).map nInt)))[f]? = some (.lst (pStrs ((List.range i).map fun j => wS (V (j + 1))))) := by rw [List.getElem?_set_ne hqf]; exact hcf
    have g2 : Gr [q, f] st8 (st.set q (.lst ((V (i + 1)).map nInt))) := g.trans (Gr.set (by simp))
    generalize st.set q (.lst ((V (i + 1)).map nInt)) = st2 at hc2 hcf2 g2 ⊢
    refine ⟨by simp only [tyM, hcf2], rfl, _, by simp only [itP, seqP, lstP, lstS, hc2]; rfl, ?_⟩
    refine word_text (by simpa only [gdOf] using hc2) (by rw [hVl]; omega) (hVb _) (fun _ => rfl) (fun _ => rfl) ?_
    refine ⟨f, _, _, rfl, rfl, hcf2, by simp [pStrs]; omega, ?_⟩
    refine hK _ _ ⟨_, _, rfl, g2.trans (Gr.set (by simp)), ?_, ?_⟩
    · rw [List.getElem?_set_ne (Ne.symm hqf)]; exact hc2
    · rw [set_at hcf2]
      simp only [pStrs, List.range_succ, List.map_append, List.map_cons, List.map_nil]
end K20
namespace Pv
open PySem PySem.Spec L2 PySem.W
theorem Inn.join {s t : Str} : ∀ {ts : List Str}, t ∈ ts → Inn t (Str.join s ts)
  | [x], h => by
    rw [List.mem_singleton] at h; subst h
    exact .refl _
  | x :: y :: r, h => by
    have e : Str.join s (x :: y :: r) = x ++ s ++ Str.join s (y :: r) := rfl
    rw [e]
    rcases List.mem_cons.mp h with rfl | h
    · refine ⟨⟨#[]⟩, s ++ Str.join s (y :: r), ?_⟩
      obtain ⟨t⟩ := t
      obtain ⟨s'⟩ := s
      show Str.mk ((t ++ s') ++ _) = Str.mk ((#[] ++ t) ++ (s' ++ _))
      simp [Array.append_assoc]
    · exact (Inn.join (s := s) h).trans ⟨x ++ s, ⟨#[]⟩, by
        show Str.mk ((x ++ s).cps ++ _) = Str.mk (((x ++ s).cps ++ _) ++ #[])
        simp⟩
theorem Inn.tup {t : Str} {ts : List Str} (h : t ∈ ts) : Inn t (tupleText ts) := by
  unfold tupleText
  exact (Inn.join h).trans ⟨_, _, rfl⟩
theorem shownAll_map : ∀ ds : List PyData, PyData.shownAll ds = ds.map PyData.shown
  | [] => rfl
  | d :: ds => by simp only [PyData.shownAll, List.map_cons, shownAll_map ds]
theorem Inn.data {d : PyData} {ds : List PyData} (h : d ∈ ds) : Inn d.shown (PyData.tuple ds).shown := by
  simp only [PyData.shown]
  refine Inn.tup ?_
  rw [shownAll_map]
  exact List.mem_map_of_mem h
end Pv
namespace Pv
/-- by one link or more, all but the first within the lot -/
inductive Rch (links : List (Nat × Nat)) (lot : List Nat) : Nat → Nat → Prop
  | one {x y} : (x, y) ∈ links → y ∈ lot → Rch links lot x y
  | more {x y z} : Rch links lot x y → (y, z) ∈ links → z ∈ lot → Rch links lot x z
section
variable {links : List (Nat × Nat)} {lot : List Nat}
theorem Rch.inn {x y : Nat} (h : Rch links lot x y) : y ∈ lot := by cases h <;> assumption
theorem Rch.trans {x y z : Nat} (h : Rch links lot x y) (g : Rch links lot y z) : Rch links lot x z := by
  induction g with
  | one a b => exact .more h a b
  | more _ a b ih => exact .more ih a b
theorem Rch.cons {x y z : Nat} (a : (x, y) ∈ links) (b : y ∈ lot) (g : Rch links lot y z) : Rch links lot x z := (Rch.one a b).trans g
def turned (links : List (Nat × Nat)) : List (Nat × Nat) := links.map fun p => (p.2, p.1)
theorem turned_mem {x y : Nat} : (x, y) ∈ turned links ↔ (y, x) ∈ links := by
  unfold turned
  rw [List.mem_map]
  refine ⟨fun ⟨p, mp, e⟩ => ?_, fun h => ⟨(y, x), h, rfl⟩⟩
  simp only [Prod.mk.injEq] at e
  obtain ⟨rfl, rfl⟩ := e
  exact mp
theorem Rch.turn {x y : Nat} (hx : x ∈ lot) (h : Rch links lot x y) : Rch (turned links) lot y x := by
  induction h with
  | one a b => exact .one (turned_mem.mpr a) hx
  | more g a b ih => exact Rch.cons (turned_mem.mpr a) g.inn ih
end
end Pv
namespace Pv
open PySem PySem.Spec L2 PySem.W PyProof.Rows
theorem perm_map_inv {α β : Type} {f : α → β} : ∀ {ys zs : List β}, ys.Perm zs → ∀ l : List α, zs = l.map f → ∃ l' : List α, l'.Perm l ∧ ys = l'.map f := by
  intro ys zs h
  induction h with
  | nil =>
    intro l e
    cases l with
    | nil => exact ⟨[], .nil, rfl⟩
    | cons a b => cases e
  | cons x _ ih =>
    intro l e
    cases l with
    | nil => cases e
    | cons a l =>
      simp only [List.map_cons, List.cons.injEq] at e
      obtain ⟨l', p, e2⟩ := ih l e.2
      exact ⟨a :: l', p.cons a, by rw [List.map_cons, e.1, e2]⟩
  | swap x y l0 =>
    intro l e
    match l, e with
    | a :: b :: l, e =>
      simp only [List.map_cons, List.cons.injEq] at e
      exact ⟨b :: a :: l, .swap _ _ _, by rw [List.map_cons, List.map_cons, e.1, e.2.1, e.2.2]⟩
  | trans _ _ ih1 ih2 =>
    intro l e
    obtain ⟨l1, p1, e1⟩ := ih2 l e
    obtain ⟨l2, p2, e2⟩ := ih1 l1 e1
    exact ⟨l2, p2.trans p1, e2⟩
def sP (ts : List Str) : List PV := ts.map PV.str
theorem leP_str (a b : Str) : leP (.str a) (.str b) = !decide (b.cps.toList < a.cps.toList) := by
  unfold leP
  simp only [dat]
  rw [dataLt_str]
theorem sortP_strs_eq (s : List Str) : ∃ s' : List Str, sortP (sP s) = sP s' ∧ s'.Perm s := by
  obtain ⟨l, p, e⟩ := perm_map_inv (f := PV.str) (List.mergeSort_perm (sP s) leP) s rfl
  exact ⟨l, e, p⟩
section
variable {R R' : Nat → Nat → Bool} {n : Nat} {f : Nat → Nat}
variable (hf : ∀ x, x < n → f x < n) (inj : ∀ x y, x < n → y < n → f x = f y → x = y) (sur : ∀ y, y < n → ∃ x, x < n ∧ f x = y) (hR : ∀ x y, x < n → y < n → R' x y = R (f x) (f y))
  (tr : ∀ x y z, R x y = true → R y z = true → R x z = true) (tr' : ∀ x y z, R' x y = true → R' y z = true → R' x z = true)
include hf inj sur hR
include tr tr'
end
end Pv
namespace Pv
open PySem PySem.Spec L2 PySem.W PyProof.Rows
end Pv
set_option maxHeartbeats 1000000
namespace K20
open PySem PySem.Spec L2 Pv PySem.W
variable {fa : Nat → Addr}
section
variable {lv : Nat} {st : Sto} {Q : PV → Sto → Prop}
theorem sum_nat : ∀ r : List Nat, (r.map fun k : Nat => (k : Int)).sum = ((r.sum : Nat) : Int)
  | [] => rfl
  | a :: r => by rw [List.map_cons, List.sum_cons, List.sum_cons, sum_nat r]; omega
theorem pInts_of (l : List Nat) : (l.map fun k : Nat => PV.int (k : Nat)) = pInts (l.map fun k : Nat => (k : Int)) := by unfold pInts; rw [List.map_map]; rfl
theorem rw_of {n : Nat} {x : PV} (h : Rw n x) : ∃ r : List Nat, x = iR r ∧ r.length = n ∧ ∀ k ∈ r, k ≤ 99 := by
  obtain ⟨xs, rfl, hl, hx⟩ := h
  have : ∀ {xs : List PV}, (∀ y ∈ xs, W8 y) → ∃ r : List Nat, xs = r.map (fun k : Nat => PV.int (k : Nat)) ∧ ∀ k ∈ r, k ≤ 99 := fun {xs} => by
    induction xs with
    | nil => intro _; exact ⟨[], rfl, nofun⟩
    | cons y ys ih =>
      intro h
      obtain ⟨r, rfl, hr⟩ := ih fun z m => h z (List.mem_cons_of_mem _ m)
      obtain ⟨v, rfl, v0, v1⟩ := h _ List.mem_cons_self
      obtain ⟨k, rfl⟩ := Int.eq_ofNat_of_zero_le v0
      exact ⟨k :: r, rfl, fun z m => by
        rcases List.mem_cons.mp m with rfl | m
        · omega
        · exact hr z m⟩
  obtain ⟨r, rfl, hr⟩ := this hx
  exact ⟨r, rfl, by simpa using hl, hr⟩
theorem sq_of {n : Nat} {x : PV} (h : Sq n x) : ∃ s : List (List Nat), x = sqP s ∧ Shp n s ∧ ∀ r ∈ s, ∀ k ∈ r, k ≤ 99 := by
  obtain ⟨xs, rfl, hl, hx⟩ := h
  have : ∀ {xs : List PV}, (∀ y ∈ xs, Rw n y) → ∃ s : List (List Nat), xs = s.map iR ∧ ∀ r ∈ s, r.length = n ∧ ∀ k ∈ r, k ≤ 99 := fun {xs} => by
    induction xs with
    | nil => intro _; exact ⟨[], rfl, nofun⟩
    | cons y ys ih =>
      intro h
      obtain ⟨s, rfl, hs⟩ := ih fun z m => h z (List.mem_cons_of_mem _ m)
      obtain ⟨r, rfl, r1, r2⟩ := rw_of (h _ List.mem_cons_self)
      exact ⟨r :: s, rfl, fun z m => by
        rcases List.mem_cons.mp m with rfl | m
        · exact ⟨r1, r2⟩
        · exact hs z m⟩
  obtain ⟨s, rfl, hs⟩ := this hx
  exact ⟨s, rfl, ⟨by simpa using hl, fun r m => (hs r m).1⟩, fun r m => (hs r m).2⟩
/-- all numbers of a square together -/
def tot (s : List (List Nat)) : Nat := (s.map List.sum).sum
theorem sum_pos {l : List Nat} : 0 < l.sum ↔ ∃ k ∈ l, k ≠ 0 := by
  induction l with
  | nil => simp
  | cons a l ih =>
    rw [List.sum_cons]
    constructor
    · intro h
      by_cases ha : a = 0
      · obtain ⟨k, mk, hk⟩ := ih.mp (by omega)
        exact ⟨k, List.mem_cons_of_mem _ mk, hk⟩
      · exact ⟨a, List.mem_cons_self, ha⟩
    · rintro ⟨k, mk, hk⟩
      rcases List.mem_cons.mp mk with rfl | mk
      · omega
      · have := ih.mpr ⟨k, mk, hk⟩; omega
theorem tot_pos {n : Nat} {s : List (List Nat)} (h : Shp n s) : 0 < tot s ↔ s ≠ zer n := by
  rw [nz_iff h]
  unfold tot
  rw [sum_pos]
  constructor
  · rintro ⟨k, mk, hk⟩
    obtain ⟨r, mr, rfl⟩ := List.mem_map.mp mk
    exact ⟨r, mr, sum_pos.mp (by omega)⟩
  · rintro ⟨r, mr, hr⟩
    exact ⟨_, List.mem_map_of_mem mr, by have := sum_pos.mpr hr; omega⟩
/-- sum([sum(line) for line in square]) -/
theorem tot_walk {i : Nat} {env : Envp} {s : List (List Nat)} (h3 : s.length ≤ 3) (hi : i < env.length) (q : Q (.int (tot s : Nat)) st) : lcGo (fun _ => True) (gNm i) tYesP (wCa sumTR (wCons (wVar i) wNil)) env (s.map iR) [] st fun acc st2 => sumR [.lst acc] st2 Q := by
  have big : sizeLine = 16777216 := rfl
  refine lc_fix iR (fun r => PV.int (r.sum : Nat)) s [] _ trivial (fun r mr Q' q' => ?_) (by rw [List.length_nil]; omega) ?_
  · simp only [gNm, wCa, wCons, wNil, wVar]
    refine ⟨_, List.getElem?_set_self hi, _, r.map fun k : Nat => (k : Int), rfl, ?_, ?_⟩
    · unfold iR; rw [pInts_of]; rfl
    · rw [sum_nat]; exact q'
  · rw [List.nil_append]
    refine ⟨_, (s.map List.sum).map fun k : Nat => (k : Int), rfl, ?_, ?_⟩
    · show some _ = some _
      rw [← pInts_of, List.map_map]; rfl
    · rw [sum_nat]; exact q
end
section
variable {lv : Nat} {st : Sto} {Q : PV → Sto → Prop}
theorem g_row {r : List Nat} (h3 : r.length ≤ 3) (hk : ∀ k ∈ r, k < 10 ^ 40) : isD (iR r) = true ∧ DOk 1 190 (dat (iR r)) := by
  refine ⟨by simp only [iR, isD]; exact (iR_data r).2.2, ?_⟩
  unfold iR
  simp only [dat, dats_map, List.map_map]
  refine (DOk.tup (d := 0) (n := 60) (k := 3) (fun x mx => ?_) (by simpa using h3)).mono (by omega) (by omega)
  obtain ⟨k, mk, rfl⟩ := List.mem_map.mp mx
  have := hk k mk
  exact int_show (by unfold bigI; omega) (by unfold bigI; omega)
theorem g_sq {n : Nat} {s : List (List Nat)} (h3 : n ≤ 3) (hs : Shp n s) (hk : ∀ r ∈ s, ∀ k ∈ r, k < 10 ^ 40) : isD (sqP s) = true ∧ DOk 2 580 (dat (sqP s)) := by
  refine ⟨by simp only [sqP, isD]; exact (sq_lay s).2.2, ?_⟩
  unfold sqP
  simp only [dat, dats_map, List.map_map]
  refine (DOk.tup (d := 1) (n := 190) (k := 3) (fun x mx => ?_) (by simp [hs.1, h3])).mono (by omega) (by omega)
  obtain ⟨r, mr, rfl⟩ := List.mem_map.mp mx
  exact (g_row (by rw [hs.2 r mr]; exact h3) (hk r mr)).2
theorem g_pts {n : Nat} {ps : Pts} (h3 : n ≤ 3) (hg : GoodP n ps) (hl : ps.length ≤ 10) (hk : ∀ p ∈ ps, ∀ r ∈ p.2, ∀ k ∈ r, k < 10 ^ 40) : isDs (ps.map ptP) = true ∧ DOk 4 12100 (.tuple (dats (ps.map ptP))) := by
  have hp : ∀ p ∈ ps, isD (ptP p) = true ∧ DOk 3 1200 (dat (ptP p)) := fun p mp => by
    obtain ⟨h1, h2, _⟩ := hg.ok p mp
    obtain ⟨a, b⟩ := g_sq h3 h2 (hk p mp)
    refine ⟨by simp only [ptP, isD, isDs, a, Bool.true_and, Bool.and_true], ?_⟩
    unfold ptP
    simp only [dat, dats_map, List.map_cons, List.map_nil]
    refine (DOk.tup (d := 2) (n := 580) (k := 2) (fun x mx => ?_) (by simp)).mono (by omega) (by omega)
    simp only [List.mem_cons, List.not_mem_nil, or_false] at mx
    rcases mx with rfl | rfl
    · exact (DOk.str (h1.good great_ok)).mono (by omega) (by omega)
    · exact b
  refine ⟨isDs_of fun x mx => by obtain ⟨p, mp, rfl⟩ := List.mem_map.mp mx; exact (hp p mp).1, ?_⟩
  rw [dats_map, List.map_map]
  refine (DOk.tup (d := 3) (n := 1200) (k := 10) (fun x mx => ?_) (by simpa using hl)).mono (by omega) (by omega)
  obtain ⟨p, mp, rfl⟩ := List.mem_map.mp mx
  exact (hp p mp).2
end
section
theorem up_one : ∀ c ∈ small.cps.toList, Txt.upper ⟨#[c]⟩ = ⟨#[c - 32]⟩ ∧ (c - 32) ∈ great.cps.toList ∧ 97 ≤ c := by decide +kernel
def upW (s : Str) : Str := Txt.upper (cutS s none (some 1)) ++ cutS s (some 1) none
theorem cut_one {s : Str} {c : Nat} {r : List Nat} (h : s.cps.toList = c :: r) : cutS s none (some 1) = ⟨#[c]⟩ := cps_inj (by
  have := cps_cut_hi s 1
  rw [h] at this
  exact this)
theorem itP_lst {st : Sto} {v : PV} {xs : List PV} (h : lstP st v = some xs) : itP st v = some xs := by
  cases v with
  | str z => cases h
  | tup z => cases h
  | _ => exact h
theorem gdOf_lst {st : Sto} {v : PV} {xs : List PV} (h : lstP st v = some xs) : gdOf v xs st := by
  cases v with
  | ref n =>
    simp only [lstP, lstS] at h
    simp only [gdOf]
    split at h
    · rename_i e; cases h; exact e
    · cases h
  | _ => exact trivial
theorem upW_cps {s : Str} {c : Nat} {r : List Nat} (h : s.cps.toList = c :: r) (hc : c ∈ small.cps.toList) : (upW s).cps.toList = (c - 32) :: r := by
  have e1 : cutS s none (some 1) = ⟨#[c]⟩ := cps_inj (by
    have := cps_cut_hi s 1
    rw [h] at this
    exact this)
  have e2 : (cutS s (some 1) none).cps.toList = r := by
    have := cps_cut_lo s 1
    rw [h] at this
    exact this
  unfold upW
  rw [e1, (up_one c hc).1]
  show ((⟨#[c - 32]⟩ : Str).cps ++ (cutS s (some 1) none).cps).toList = _
  rw [Array.toList_append, e2]
  rfl
theorem upW_spelt {s : Str} (h : Spelt small s) : Spelt great (upW s) := by
  obtain ⟨c, r, h1, h2, h3, h4⟩ := h
  exact ⟨c - 32, r, upW_cps h1 h2, (up_one c h2).2.1, h3, h4⟩
theorem upW_inj {s t : Str} (hs : Spelt small s) (ht : Spelt small t) (e : upW s = upW t) : s = t := by
  obtain ⟨c, r, h1, h2, _, _⟩ := hs
  obtain ⟨d, q, g1, g2, _, _⟩ := ht
  have := congrArg (fun z : Str => z.cps.toList) e
  simp only [upW_cps h1 h2, upW_cps g1 g2, List.cons.injEq] at this
  have k1 := (up_one c h2).2.2
  have k2 := (up_one d g2).2.2
  refine cps_inj ?_
  rw [h1, g1, show c = d by omega, this.2]
theorem spelt_len {L s : Str} (h : Spelt L s) : 1 ≤ s.length ∧ s.length ≤ 6 := by
  obtain ⟨c, r, e1, _, _, e4⟩ := h
  have : s.length = (c :: r).length := by rw [← e1, Array.length_toList]; rfl
  rw [this, List.length_cons]; omega
theorem c_lunks {lv : Nat} (hlv : 3 ≤ lv) {n m k : Nat} (hk : k ≤ 6) {sto : Sto} {Q : PV → Sto → Prop} (hd : D8 sto n m) (hm : m ≤ 900000)
    (kk : ∀ ss st', ss.length = k → (∀ s ∈ ss, Spelt great s) → ss.Nodup → Gr [n] sto st' → D8 st' n (m + 10) → Q (.lst (pStrs ss)) st') : Sem (prog fa) lv F_law_unknowns [.ref n, .int (k : Nat)] sto Q := by
  obtain ⟨lv, rfl⟩ : ∃ j, lv = j + 1 := ⟨lv - 1, by omega⟩
  refine go_law_unknowns ?_
  have big : sizeLine = 16777216 := rfl
  simp only [w_law_unknowns, wLc, iVal, wipeP, sSeq, sIf, sAsg, sRet, sRetN, sNext, sDrop, gNm, gIx, gTp, gCn, gNl, tValP, tTru, truP, tNotP, tAndP, tOrP, wOp, wVar, wC, wCa, wCons, wNil, wTup, wLst, wIf, wCall, wNeg, startP, List.map_cons, List.map_nil, List.cons_append, List.nil_append, List.getElem?_cons_zero, List.getElem?_cons_succ, List.length_cons, List.length_nil, Nat.reduceAdd, Nat.reduceSub, List.replicate_succ, List.replicate_zero, List.set_cons_zero, List.set_cons_succ, Option.some.injEq, exists_eq_left', PV.bl.injEq, PV.int.injEq, PV.str.injEq, PV.ref.injEq, PV.tup.injEq, PV.lst.injEq, Cell.lst.injEq, List.cons.injEq, and_true, true_and, exists_and_left, r_add, r_adds, r_addt, r_addl, r_sub, r_mul, r_fdiv, r_mod, r_pow, r_lt, r_le, r_gt, r_ge, r_eqi, r_nei, r_eqs, r_nes, r_inti, r_intb, r_ixr, r_ixl, r_ixt, r_newt, r_newf, atI_0, atI_1, atI_2, decide_eq_true_eq]
  refine c_words (by omega) hk hd hm fun v ss st' hv hl hsp hnd hfr g d => ?_
  refine ⟨pStrs ss, itP_lst hv, ?_⟩
  refine lc_fix PV.str (fun s => PV.str (upW s)) ss [] _ (gdOf_lst hv) (fun s ms Q' q' => ?_) (by simp only [List.length_nil]; omega) ?_
  · have hsp' := hsp s ms
    have hl6 := (spelt_len hsp').2
    simp only [gNm, wM, wSl, oNo, oSo, slR, sSeq, sIf, sAsg, sRet, sRetN, sNext, sDrop, gNm, gIx, gTp, gCn, gNl, tValP, tTru, truP, tNotP, tAndP, tOrP, wOp, wVar, wC, wCa, wCons, wNil, wTup, wLst, wIf, wCall, wNeg, startP, List.map_cons, List.map_nil, List.cons_append, List.nil_append, List.getElem?_cons_zero, List.getElem?_cons_succ, List.length_cons, List.length_nil, Nat.reduceAdd, Nat.reduceSub, List.replicate_succ, List.replicate_zero, List.set_cons_zero, List.set_cons_succ, Option.some.injEq, exists_eq_left', PV.bl.injEq, PV.int.injEq, PV.str.injEq, PV.ref.injEq, PV.tup.injEq, PV.lst.injEq, Cell.lst.injEq, List.cons.injEq, and_true, true_and, exists_and_left, r_add, r_adds, r_addt, r_addl, r_sub, r_mul, r_fdiv, r_mod, r_pow, r_lt, r_le, r_gt, r_ge, r_eqi, r_nei, r_eqs, r_nes, r_inti, r_intb, r_ixr, r_ixl, r_ixt, r_newt, r_newf, atI_0, atI_1, atI_2, decide_eq_true_eq]
    obtain ⟨c, r, g1, g2, _, _⟩ := hsp'
    have k1 : (cutS s none (some 1)).length = 1 := by rw [cut_one g1]; rfl
    have k2 : (cutS s (some 1) none).length = s.length - 1 := cut_lo s 1
    have k3 : (Txt.upper (cutS s none (some 1))).length = 1 := by rw [cut_one g1, (up_one c g2).1]; rfl
    refine ⟨by omega, ?_⟩
    exact ⟨rfl, _, rfl, rfl, by omega, by omega, by omega, q'⟩
  · rw [List.nil_append]
    have e : (ss.map fun s => PV.str (upW s)) = pStrs (ss.map upW) := by unfold pStrs; rw [List.map_map]; rfl
    rw [e]
    refine kk _ st' (by rw [List.length_map]; exact hl) (fun s ms => ?_) ?_ g d
    · obtain ⟨t, mt, rfl⟩ := List.mem_map.mp ms
      exact upW_spelt (hsp t mt)
    · refine List.pairwise_map.mpr (hnd.imp_of_mem fun {a b} ma mb hne e => hne (upW_inj (hsp a ma) (hsp b mb) e))
theorem sort_unks {ss : List Str} (hn : ss.Nodup) : ∃ ys : List Str, sortP (pStrs ss) = pStrs ys ∧ ys.Perm ss ∧ ys.Pairwise fun a b => a.cps.toList < b.cps.toList := by
  obtain ⟨ys, e, p⟩ := sortP_strs_eq ss
  refine ⟨ys, e, p, ?_⟩
  have h := sortP_srt (sP ss)
  rw [e] at h
  have h1 := List.pairwise_map.mp h
  refine (h1.and (p.nodup_iff.mpr hn)).imp fun {a b} ⟨q, ne⟩ => ?_
  rw [leP_str] at q
  by_cases hlt : a.cps.toList < b.cps.toList
  · exact hlt
  · refine absurd (cps_inj (List.le_antisymm ?_ ?_)) ne
    · simpa using q
    · simpa using hlt
theorem alike_strs (ss : List Str) : isDs (pStrs ss) = true ∧ AlikeP (pStrs ss) ∧ ∀ y ∈ pStrs ss, y ≠ .non ∧ (dat y).depth ≤ 60 := by
  refine ⟨?_, ?_, ?_⟩
  · induction ss with
    | nil => rfl
    | cons a ss ih => exact ih
  · intro x mx y my
    obtain ⟨a, _, rfl⟩ := List.mem_map.mp mx
    obtain ⟨b, _, rfl⟩ := List.mem_map.mp my
    rfl
  · intro y my
    obtain ⟨b, _, rfl⟩ := List.mem_map.mp my
    exact ⟨nofun, Nat.zero_le _⟩
end
end K20
namespace K20
open PySem PySem.Spec L2 Pv PySem.W
section
def nS (k : Nat) : Str := Str.ofString (toString (k : Int))
theorem nS_ok : ∀ k, k < 100 → (nS k).length ≤ 2 ∧ PyData.strOk (nS k) = true := by decide +kernel
theorem app_list (a b : Str) : (a ++ b).cps.toList = a.cps.toList ++ b.cps.toList := by
  show (a.cps ++ b.cps).toList = _
  simp
theorem join_list (s x : Str) : ∀ ts : List Str, (Str.join s (x :: ts)).cps.toList = x.cps.toList ++ ts.flatMap fun t => s.cps.toList ++ t.cps.toList
  | [] => by simp [Str.join]
  | y :: r => by
    have e : Str.join s (x :: y :: r) = x ++ s ++ Str.join s (y :: r) := rfl
    rw [e, app_list, app_list, join_list s y r]
    simp
theorem joinB {s : Str} {M : Nat} (hs : PyData.strOk s = true) : ∀ {ts : List Str}, (∀ t ∈ ts, t.length ≤ M ∧ PyData.strOk t = true) → PyData.strOk (Str.join s ts) = true ∧ (Str.join s ts).length ≤ ts.length * (M + s.length)
  | [], _ => ⟨(show PyData.strOk Str.empty = true by decide +kernel), Nat.zero_le _⟩
  | [x], h => ⟨(h x List.mem_cons_self).2, by
    have := (h x List.mem_cons_self).1
    show x.length ≤ 1 * (M + s.length)
    omega⟩
  | x :: y :: r, h => by
    obtain ⟨h1, h2⟩ := joinB hs (ts := y :: r) fun z m => h z (List.mem_cons_of_mem _ m)
    have e : Str.join s (x :: y :: r) = x ++ s ++ Str.join s (y :: r) := rfl
    have hx := h x List.mem_cons_self
    rw [e]
    refine ⟨strOk_app (strOk_app hx.2 hs) h1, ?_⟩
    rw [len_app, len_app, List.length_cons, Nat.add_mul, Nat.one_mul]
    omega
def lnT (r : List Nat) : Str := Str.join " " (r.map nS)
def rwT (r : List Nat) : Str := "[" ++ lnT r ++ "]"
def sqT (s : List (List Nat)) : Str := "[" ++ Str.join ";" (s.map lnT) ++ "]"
def fT (b : List Nat) (ps : Pts) : Str := Str.join " + " (rwT b :: ps.map fun p => sqT p.2 ++ p.1)
def gS (acc : Str) (p : Str × List (List Nat)) : Str := acc ++ " + [" ++ Str.join ";" (p.2.map lnT) ++ "]" ++ p.1
theorem gT_eq (b : List Nat) (ps : Pts) : ps.foldl gS (rwT b) = fT b ps := by
  have key : ∀ (ps : Pts) (acc : Str), (ps.foldl gS acc).cps.toList = acc.cps.toList ++ ps.flatMap fun p => (" + " : Str).cps.toList ++ (sqT p.2 ++ p.1).cps.toList := fun ps => by
    induction ps with
    | nil => intro acc; simp
    | cons p ps ih =>
      intro acc
      rw [List.foldl_cons, ih, List.flatMap_cons]
      unfold gS sqT
      simp only [app_list]
      have e : (" + [" : Str).cps.toList = (" + " : Str).cps.toList ++ ("[" : Str).cps.toList := rfl
      rw [e]
      simp only [List.append_assoc]
  refine cps_inj ?_
  rw [key]
  unfold fT
  rw [join_list, List.flatMap_map]
def tpT (ws : List Str) : Str := "(" ++ Str.join ", " ws ++ (if ws.length = 1 then ("," : Str) else Str.empty) ++ ")"
theorem tpT_eq (ts : List Str) : tupleText ts = tpT ts := by
  unfold tupleText tpT
  refine cps_inj ?_
  by_cases h : ts.length = 1
  · have h2 : (ts.length == 1) = true := by rw [h]; rfl
    rw [h2, if_pos rfl, if_pos h]
    simp only [app_list, List.append_assoc]
    rfl
  · have h2 : (ts.length == 1) = false := by simpa using h
    rw [h2, if_neg h]
    simp only [app_list, List.append_assoc, Bool.false_eq_true, if_false]
    rfl
def ptT (p : Str × List (List Nat)) : Str := "('" ++ p.1 ++ "', " ++ tpT (p.2.map fun r => tpT (r.map nS)) ++ ")"
def pgT (b : List Nat) (ps : Pts) : Str := "Form(" ++ tpT (b.map nS) ++ ", " ++ tpT (ps.map ptT) ++ ")"
theorem shown_row (r : List Nat) : (dat (iR r)).shown = tpT (r.map nS) := by
  unfold iR
  simp only [dat, PyData.shown]
  rw [tpT_eq]
  congr 1
  induction r with
  | nil => rfl
  | cons k r ih =>
    simp only [List.map_cons, dats, PyData.shownAll, dat, PyData.shown, ih]
    rfl
theorem shown_sq (s : List (List Nat)) : (dat (sqP s)).shown = tpT (s.map fun r => tpT (r.map nS)) := by
  unfold sqP
  simp only [dat, PyData.shown]
  rw [tpT_eq]
  congr 1
  induction s with
  | nil => rfl
  | cons r s ih => simp only [List.map_cons, dats, PyData.shownAll, shown_row, ih]
theorem let_char : ∀ c ∈ small.cps.toList ++ great.cps.toList, Builtin.Str.reprChar 39 c = [c] ∧ c ≠ 39 ∧ c ≠ 34 := by decide +kernel
theorem fold_rep : ∀ {l : List Nat} {acc : Array Nat}, (∀ c ∈ l, Builtin.Str.reprChar 39 c = [c]) → l.foldl (fun out c => out ++ (Builtin.Str.reprChar 39 c).toArray) acc = acc ++ l.toArray
  | [], acc, _ => by simp
  | c :: l, acc, h => by
    rw [List.foldl_cons, h c List.mem_cons_self, fold_rep fun z m => h z (List.mem_cons_of_mem _ m)]
    simp
theorem rep_text {L s : Str} (h : Spelt L s) (hL : ∀ c ∈ L.cps.toList, c ∈ small.cps.toList ++ great.cps.toList) : (reprText s).cps.toList = 39 :: (s.cps.toList ++ [39]) ∧ 39 ∉ s.cps.toList := by
  obtain ⟨c, r, e, hc, hr, _⟩ := h
  have hall : ∀ x ∈ s.cps.toList, Builtin.Str.reprChar 39 x = [x] ∧ x ≠ 39 ∧ x ≠ 34 := fun x mx => by
    rw [e] at mx
    rcases List.mem_cons.mp mx with rfl | mx
    · exact let_char _ (hL _ hc)
    · exact let_char _ (List.mem_append_left _ (hr x mx))
  have hq : reprQuote s = 39 := by
    have h1 : s.cps.contains 39 = false := by
      cases h : s.cps.contains 39 with
      | false => rfl
      | true => exact absurd rfl (hall 39 (by simpa using h)).2.1
    unfold reprQuote
    simp only [h1, Bool.false_and, Bool.false_eq_true, if_false]
  refine ⟨?_, fun m => (hall 39 m).2.1 rfl⟩
  unfold reprText
  simp only [hq]
  rw [← Array.foldl_toList, fold_rep (fun c mc => (hall c mc).1)]
  simp
theorem shown_name {u : Str} (h : Spelt great u) : (PyData.str u).shown = "'" ++ u ++ "'" := by
  have e : (PyData.str u).shown = reprText u := rfl
  rw [e]
  refine cps_inj ?_
  rw [(rep_text h fun c mc => List.mem_append_right _ mc).1, app_list, app_list]
  rfl
theorem tpT_two (a b : Str) : (tpT [a, b]).cps.toList = ("(" : Str).cps.toList ++ (a.cps.toList ++ ((", " : Str).cps.toList ++ (b.cps.toList ++ (")" : Str).cps.toList))) := by
  unfold tpT
  rw [if_neg (by simp)]
  have e2 : Str.join ", " [a, b] = a ++ ", " ++ b := rfl
  rw [e2]
  simp only [app_list, List.append_assoc]
  rfl
theorem shown_pt {p : Str × List (List Nat)} (h : Spelt great p.1) : (dat (ptP p)).shown = ptT p := by
  have e : (dat (ptP p)).shown = tupleText [(PyData.str p.1).shown, (dat (sqP p.2)).shown] := rfl
  rw [e, shown_name h, shown_sq, tpT_eq]
  refine cps_inj ?_
  rw [tpT_two]
  unfold ptT
  simp only [app_list, List.append_assoc]
  rfl
theorem shown_pts {ps : Pts} (h : ∀ p ∈ ps, Spelt great p.1) : (PyData.tuple (dats (ps.map ptP))).shown = tpT (ps.map ptT) := by
  simp only [PyData.shown]
  rw [tpT_eq]
  congr 1
  induction ps with
  | nil => rfl
  | cons p ps ih =>
    simp only [List.map_cons, dats, PyData.shownAll, ih fun q m => h q (List.mem_cons_of_mem _ m), shown_pt (h p List.mem_cons_self)]
def SmT (M : Nat) (t : Str) : Prop := t.length ≤ M ∧ PyData.strOk t = true
theorem SmT.mono {M N : Nat} {t : Str} (h : SmT M t) (hn : M ≤ N) : SmT N t := ⟨Nat.le_trans h.1 hn, h.2⟩
theorem SmT.app {M N : Nat} {a b : Str} (ha : SmT M a) (hb : SmT N b) : SmT (M + N) (a ++ b) := ⟨by rw [len_app]; have := ha.1; have := hb.1; omega, strOk_app ha.2 hb.2⟩
theorem SmT.join {s : Str} {M N k : Nat} (hs : SmT N s) {ts : List Str} (h : ∀ t ∈ ts, SmT M t) (hk : ts.length ≤ k) : SmT (k * (M + N)) (Str.join s ts) := by
  obtain ⟨h1, h2⟩ := joinB hs.2 h
  refine ⟨Nat.le_trans h2 (Nat.mul_le_mul hk ?_), h1⟩
  have := hs.1; omega
theorem c_sm {s : Str} (N : Nat) (h : s.length ≤ N ∧ PyData.strOk s = true) : SmT N s := h
theorem spelt_sm {u : Str} (h : Spelt great u) : SmT 6 u := ⟨by
  obtain ⟨c, r, e, _, _, hl⟩ := h
  have : u.length = (c :: r).length := by rw [← e]; simp [Str.length]
  rw [this]; simp; omega, h.ok great_ok⟩
/-- a row of small numbers -/
def SmR (r : List Nat) : Prop := r.length ≤ 3 ∧ ∀ k ∈ r, k ≤ 99
def SmS (s : List (List Nat)) : Prop := s.length ≤ 3 ∧ ∀ r ∈ s, SmR r
theorem nS_sm {r : List Nat} (h : SmR r) : ∀ t ∈ r.map nS, SmT 2 t := fun t mt => by
  obtain ⟨k, mk, rfl⟩ := List.mem_map.mp mt
  have := h.2 k mk
  exact nS_ok k (by omega)
theorem lnT_sm {r : List Nat} (h : SmR r) : SmT 9 (lnT r) := SmT.join (M := 2) (N := 1) (k := 3) (c_sm 1 (by decide +kernel)) (nS_sm h) (by simpa using h.1)
theorem rwT_sm {r : List Nat} (h : SmR r) : SmT 11 (rwT r) := ((c_sm 1 (by decide +kernel)).app (lnT_sm h)).app (c_sm 1 (by decide +kernel))
theorem jnT_sm {s : List (List Nat)} (h : SmS s) : SmT 30 (Str.join ";" (s.map lnT)) := SmT.join (M := 9) (N := 1) (k := 3) (c_sm 1 (by decide +kernel)) (fun t mt => by
  obtain ⟨r, mr, rfl⟩ := List.mem_map.mp mt
  exact lnT_sm (h.2 r mr)) (by simpa using h.1)
theorem sqT_sm {s : List (List Nat)} (h : SmS s) : SmT 32 (sqT s) := ((c_sm 1 (by decide +kernel)).app (jnT_sm h)).app (c_sm 1 (by decide +kernel))
structure SmP (ps : Pts) : Prop where
  ln : ps.length ≤ 5
  nm : ∀ p ∈ ps, Spelt great p.1
  sq : ∀ p ∈ ps, SmS p.2
theorem fT_sm {b : List Nat} {ps : Pts} (hb : SmR b) (hp : SmP ps) : SmT 300 (fT b ps) := (SmT.join (M := 38) (N := 3) (k := 6) (c_sm 3 (by decide +kernel)) (fun t mt => by
  rcases List.mem_cons.mp mt with rfl | mt
  · exact (rwT_sm hb).mono (by omega)
  · obtain ⟨p, mp, rfl⟩ := List.mem_map.mp mt
    exact (sqT_sm (hp.sq p mp)).app (spelt_sm (hp.nm p mp))) (by simp; exact hp.ln)).mono (by omega)
theorem tpT_sm {M k : Nat} {ts : List Str} (h : ∀ t ∈ ts, SmT M t) (hk : ts.length ≤ k) : SmT (k * (M + 2) + 3) (tpT ts) := by
  have h1 : SmT 1 (if ts.length = 1 then ("," : Str) else Str.empty) := by
    split
    · exact c_sm 1 (by decide +kernel)
    · exact c_sm 1 (by decide +kernel)
  have := (((c_sm (s := "(") 1 (by decide +kernel)).app (SmT.join (M := M) (N := 2) (k := k) (c_sm (s := ", ") 2 (by decide +kernel)) h hk)).app h1).app (c_sm (s := ")") 1 (by decide +kernel))
  exact this.mono (by omega)
theorem trT_sm {r : List Nat} (h : SmR r) : SmT 15 (tpT (r.map nS)) := tpT_sm (M := 2) (k := 3) (nS_sm h) (by simpa using h.1)
theorem tsT_sm {s : List (List Nat)} (h : SmS s) : SmT 54 (tpT (s.map fun r => tpT (r.map nS))) := tpT_sm (M := 15) (k := 3) (fun t mt => by
  obtain ⟨r, mr, rfl⟩ := List.mem_map.mp mt
  exact trT_sm (h.2 r mr)) (by simpa using h.1)
theorem ptT_sm {p : Str × List (List Nat)} (h : Spelt great p.1) (hs : SmS p.2) : SmT 70 (ptT p) := ((((c_sm 2 (by decide +kernel)).app (spelt_sm h)).app (c_sm 3 (by decide +kernel))).app (tsT_sm hs)).app (c_sm 1 (by decide +kernel)) |>.mono (by omega)
theorem ppT_sm {ps : Pts} (hp : SmP ps) : SmT 363 (tpT (ps.map ptT)) := tpT_sm (M := 70) (k := 5) (fun t mt => by
  obtain ⟨p, mp, rfl⟩ := List.mem_map.mp mt
  exact ptT_sm (hp.nm p mp) (hp.sq p mp)) (by simpa using hp.ln)
theorem pgT_sm {b : List Nat} {ps : Pts} (hb : SmR b) (hp : SmP ps) : SmT 400 (pgT b ps) := ((((c_sm 5 (by decide +kernel)).app (trT_sm hb)).app (c_sm 2 (by decide +kernel))).app (ppT_sm hp)).app (c_sm 1 (by decide +kernel)) |>.mono (by omega)
end
end K20
namespace K20
open PySem PySem.Spec L2 Pv PySem.W
variable {fa : Nat → Addr}
section
variable {lv : Nat} {st : Sto} {Q : PV → Sto → Prop}
theorem str_nat {k : Nat} (hk : k ≤ 99) (q : Q (.str (nS k)) st) : strR [.int (k : Nat)] st Q := by
  refine ⟨_, rfl, ?_, q⟩
  have h : ((k : Nat) : Int).natAbs = k := rfl
  rw [h]
  have := Nat.log2_le_self k
  omega
theorem strs_lc {gd : Sto → Prop} {env : Envp} {i : Nat} {r : List Nat} (hg : gd st) (hr : SmR r) (hi : i < env.length) {kk : List PV → Sto → Prop} (q : kk (pStrs (r.map nS)) st) : lcGo gd (gNm i) tYesP (wCa strR (wCons (wVar i) wNil)) env (r.map fun k : Nat => PV.int (k : Nat)) [] st kk := by
  have big : sizeLine = 16777216 := rfl
  have hl := hr.1
  refine lc_fix (fun k : Nat => PV.int (k : Nat)) (fun k => PV.str (nS k)) r [] _ hg (fun k mk Q' q' => ?_) (by rw [List.length_nil]; omega) ?_
  · simp only [gNm, wCa, wCons, wNil, wVar, sSeq, sIf, sAsg, sRet, sRetN, sNext, sDrop, gNm, gIx, gTp, gCn, gNl, tValP, tTru, truP, tNotP, tAndP, tOrP, wOp, wVar, wC, wCa, wCons, wNil, wTup, wLst, wIf, wCall, wNeg, startP, List.map_cons, List.map_nil, List.cons_append, List.nil_append, List.getElem?_cons_zero, List.getElem?_cons_succ, List.length_cons, List.length_nil, Nat.reduceAdd, Nat.reduceSub, List.replicate_succ, List.replicate_zero, List.set_cons_zero, List.set_cons_succ, Option.some.injEq, exists_eq_left', PV.bl.injEq, PV.int.injEq, PV.str.injEq, PV.ref.injEq, PV.tup.injEq, PV.lst.injEq, Cell.lst.injEq, List.cons.injEq, and_true, true_and, exists_and_left, r_add, r_adds, r_addt, r_addl, r_sub, r_mul, r_fdiv, r_mod, r_pow, r_lt, r_le, r_gt, r_ge, r_eqi, r_nei, r_eqs, r_nes, r_inti, r_intb, r_ixr, r_ixl, r_ixt, r_newt, r_newf, atI_0, atI_1, atI_2, decide_eq_true_eq]
    exact ⟨_, List.getElem?_set_self hi, str_nat (hr.2 k mk) q'⟩
  · rw [List.nil_append]
    have e : r.map (fun k => PV.str (nS k)) = pStrs (r.map nS) := by unfold pStrs; rw [List.map_map]; rfl
    rw [e]; exact q
theorem join_do {s : Str} {ts : List Str} {M N k : Nat} (hs : SmT N s) (h : ∀ t ∈ ts, SmT M t) (hk : ts.length ≤ k) (hz : k * (M + N) ≤ 16777216) (q : Q (.str (Str.join s ts)) st) : joinR (.str s) [.lst (pStrs ts)] st Q := by
  refine ⟨_, _, ts, rfl, rfl, rfl, ?_, by rw [txt_join]; exact q⟩
  have h1 : (ts.map (·.length)).sum ≤ ts.length * M := by
    clear hk hz q
    induction ts with
    | nil => simp
    | cons t ts ih =>
      have a := ih fun x m => h x (List.mem_cons_of_mem _ m)
      have b := (h t List.mem_cons_self).1
      rw [List.map_cons, List.sum_cons, List.length_cons, Nat.add_mul, Nat.one_mul]
      omega
  have h2 : ts.length * s.length ≤ ts.length * N := Nat.mul_le_mul_left _ hs.1
  have h3 : ts.length * (M + N) ≤ k * (M + N) := Nat.mul_le_mul_right _ hk
  rw [Nat.mul_add] at h3
  omega
theorem add_sm {a b : Str} {M N : Nat} (ha : SmT M a) (hb : SmT N b) (h : M + N ≤ 16777216) (q : Q (.str (a ++ b)) st) : addR false (.str a) (.str b) st Q := r_adds.mpr ⟨by have := ha.1; have := hb.1; have big : sizeLine = 16777216 := rfl; omega, q⟩
theorem c_numbers (hlv : 1 ≤ lv) {r : List Nat} (hr : SmR r) (q : Q (.str (lnT r)) st) : Sem (prog fa) lv F_shown_numbers [iR r] st Q := by
  obtain ⟨lv, rfl⟩ : ∃ j, lv = j + 1 := ⟨lv - 1, by omega⟩
  refine go_shown_numbers ?_
  simp only [w_shown_numbers, wM, wLc, iVal, wipeP, sSeq, sIf, sAsg, sRet, sRetN, sNext, sDrop, gNm, gIx, gTp, gCn, gNl, tValP, tTru, truP, tNotP, tAndP, tOrP, wOp, wVar, wC, wCa, wCons, wNil, wTup, wLst, wIf, wCall, wNeg, startP, List.map_cons, List.map_nil, List.cons_append, List.nil_append, List.getElem?_cons_zero, List.getElem?_cons_succ, List.length_cons, List.length_nil, Nat.reduceAdd, Nat.reduceSub, List.replicate_succ, List.replicate_zero, List.set_cons_zero, List.set_cons_succ, Option.some.injEq, exists_eq_left', PV.bl.injEq, PV.int.injEq, PV.str.injEq, PV.ref.injEq, PV.tup.injEq, PV.lst.injEq, Cell.lst.injEq, List.cons.injEq, and_true, true_and, exists_and_left, r_add, r_adds, r_addt, r_addl, r_sub, r_mul, r_fdiv, r_mod, r_pow, r_lt, r_le, r_gt, r_ge, r_eqi, r_nei, r_eqs, r_nes, r_inti, r_intb, r_ixr, r_ixl, r_ixt, r_newt, r_newf, atI_0, atI_1, atI_2, decide_eq_true_eq]
  refine ⟨rfl, _, rfl, ?_⟩
  refine strs_lc (i := 1) trivial hr (by simp) ?_
  exact join_do (M := 2) (N := 1) (k := 3) (c_sm 1 (by decide +kernel)) (nS_sm hr) (by simpa using hr.1) (by omega) q
theorem c_line (hlv : 1 ≤ lv) {r : List Nat} (hr : SmR r) (q : Q (.str (lnT r)) st) : Sem (prog fa) lv F_law_line [iR r] st Q := by
  obtain ⟨lv, rfl⟩ : ∃ j, lv = j + 1 := ⟨lv - 1, by omega⟩
  refine go_law_line ?_
  simp only [w_law_line, wM, wLc, iVal, wipeP, sSeq, sIf, sAsg, sRet, sRetN, sNext, sDrop, gNm, gIx, gTp, gCn, gNl, tValP, tTru, truP, tNotP, tAndP, tOrP, wOp, wVar, wC, wCa, wCons, wNil, wTup, wLst, wIf, wCall, wNeg, startP, List.map_cons, List.map_nil, List.cons_append, List.nil_append, List.getElem?_cons_zero, List.getElem?_cons_succ, List.length_cons, List.length_nil, Nat.reduceAdd, Nat.reduceSub, List.replicate_succ, List.replicate_zero, List.set_cons_zero, List.set_cons_succ, Option.some.injEq, exists_eq_left', PV.bl.injEq, PV.int.injEq, PV.str.injEq, PV.ref.injEq, PV.tup.injEq, PV.lst.injEq, Cell.lst.injEq, List.cons.injEq, and_true, true_and, exists_and_left, r_add, r_adds, r_addt, r_addl, r_sub, r_mul, r_fdiv, r_mod, r_pow, r_lt, r_le, r_gt, r_ge, r_eqi, r_nei, r_eqs, r_nes, r_inti, r_intb, r_ixr, r_ixl, r_ixt, r_newt, r_newf, atI_0, atI_1, atI_2, decide_eq_true_eq]
  refine ⟨rfl, _, rfl, ?_⟩
  refine strs_lc (i := 1) trivial hr (by simp) ?_
  exact join_do (M := 2) (N := 1) (k := 3) (c_sm 1 (by decide +kernel)) (nS_sm hr) (by simpa using hr.1) (by omega) q
theorem c_shrow (hlv : 2 ≤ lv) {r : List Nat} (hr : SmR r) (q : Q (.str (rwT r)) st) : Sem (prog fa) lv F_shown_row [iR r] st Q := by
  obtain ⟨lv, rfl⟩ : ∃ j, lv = j + 1 := ⟨lv - 1, by omega⟩
  have big : sizeLine = 16777216 := rfl
  refine go_shown_row ?_
  simp only [w_shown_row, sSeq, sIf, sAsg, sRet, sRetN, sNext, sDrop, gNm, gIx, gTp, gCn, gNl, tValP, tTru, truP, tNotP, tAndP, tOrP, wOp, wVar, wC, wCa, wCons, wNil, wTup, wLst, wIf, wCall, wNeg, startP, List.map_cons, List.map_nil, List.cons_append, List.nil_append, List.getElem?_cons_zero, List.getElem?_cons_succ, List.length_cons, List.length_nil, Nat.reduceAdd, Nat.reduceSub, List.replicate_succ, List.replicate_zero, List.set_cons_zero, List.set_cons_succ, Option.some.injEq, exists_eq_left', PV.bl.injEq, PV.int.injEq, PV.str.injEq, PV.ref.injEq, PV.tup.injEq, PV.lst.injEq, Cell.lst.injEq, List.cons.injEq, and_true, true_and, exists_and_left, r_add, r_adds, r_addt, r_addl, r_sub, r_mul, r_fdiv, r_mod, r_pow, r_lt, r_le, r_gt, r_ge, r_eqi, r_nei, r_eqs, r_nes, r_inti, r_intb, r_ixr, r_ixl, r_ixt, r_newt, r_newf, atI_0, atI_1, atI_2, decide_eq_true_eq]
  refine c_numbers (by omega) hr ?_
  exact add_sm (c_sm 1 (by decide +kernel)) (lnT_sm hr) (by omega) (add_sm ((c_sm 1 (by decide +kernel)).app (lnT_sm hr)) (c_sm 1 (by decide +kernel)) (by omega) q)
theorem c_shsq (hlv : 2 ≤ lv) {s : List (List Nat)} (hs : SmS s) (q : Q (.str (sqT s)) st) : Sem (prog fa) lv F_shown_square [sqP s] st Q := by
  obtain ⟨lv, rfl⟩ : ∃ j, lv = j + 1 := ⟨lv - 1, by omega⟩
  have big : sizeLine = 16777216 := rfl
  refine go_shown_square ?_
  simp only [w_shown_square, wM, wLc, iVal, wipeP, sSeq, sIf, sAsg, sRet, sRetN, sNext, sDrop, gNm, gIx, gTp, gCn, gNl, tValP, tTru, truP, tNotP, tAndP, tOrP, wOp, wVar, wC, wCa, wCons, wNil, wTup, wLst, wIf, wCall, wNeg, startP, List.map_cons, List.map_nil, List.cons_append, List.nil_append, List.getElem?_cons_zero, List.getElem?_cons_succ, List.length_cons, List.length_nil, Nat.reduceAdd, Nat.reduceSub, List.replicate_succ, List.replicate_zero, List.set_cons_zero, List.set_cons_succ, Option.some.injEq, exists_eq_left', PV.bl.injEq, PV.int.injEq, PV.str.injEq, PV.ref.injEq, PV.tup.injEq, PV.lst.injEq, Cell.lst.injEq, List.cons.injEq, and_true, true_and, exists_and_left, r_add, r_adds, r_addt, r_addl, r_sub, r_mul, r_fdiv, r_mod, r_pow, r_lt, r_le, r_gt, r_ge, r_eqi, r_nei, r_eqs, r_nes, r_inti, r_intb, r_ixr, r_ixl, r_ixt, r_newt, r_newf, atI_0, atI_1, atI_2, decide_eq_true_eq]
  refine ⟨rfl, _, rfl, ?_⟩
  have hl := hs.1
  refine lc_fix iR (fun r => PV.str (lnT r)) s [] _ trivial (fun r mr Q' q' => ?_) (by rw [List.length_nil]; omega) ?_
  · simp only [gNm, List.set_cons_zero, List.set_cons_succ, sSeq, sIf, sAsg, sRet, sRetN, sNext, sDrop, gNm, gIx, gTp, gCn, gNl, tValP, tTru, truP, tNotP, tAndP, tOrP, wOp, wVar, wC, wCa, wCons, wNil, wTup, wLst, wIf, wCall, wNeg, startP, List.map_cons, List.map_nil, List.cons_append, List.nil_append, List.getElem?_cons_zero, List.getElem?_cons_succ, List.length_cons, List.length_nil, Nat.reduceAdd, Nat.reduceSub, List.replicate_succ, List.replicate_zero, List.set_cons_zero, List.set_cons_succ, Option.some.injEq, exists_eq_left', PV.bl.injEq, PV.int.injEq, PV.str.injEq, PV.ref.injEq, PV.tup.injEq, PV.lst.injEq, Cell.lst.injEq, List.cons.injEq, and_true, true_and, exists_and_left, r_add, r_adds, r_addt, r_addl, r_sub, r_mul, r_fdiv, r_mod, r_pow, r_lt, r_le, r_gt, r_ge, r_eqi, r_nei, r_eqs, r_nes, r_inti, r_intb, r_ixr, r_ixl, r_ixt, r_newt, r_newf, atI_0, atI_1, atI_2, decide_eq_true_eq]
    exact c_numbers (by omega) (hs.2 r mr) q'
  · rw [List.nil_append]
    have e : s.map (fun r => PV.str (lnT r)) = pStrs (s.map lnT) := by unfold pStrs; rw [List.map_map]; rfl
    rw [e]
    refine join_do (M := 9) (N := 1) (k := 3) (c_sm 1 (by decide +kernel)) (fun t mt => ?_) (by simpa using hl) (by omega) ?_
    · obtain ⟨r, mr, rfl⟩ := List.mem_map.mp mt
      exact lnT_sm (hs.2 r mr)
    · exact add_sm (c_sm 1 (by decide +kernel)) (jnT_sm hs) (by omega) (add_sm ((c_sm 1 (by decide +kernel)).app (jnT_sm hs)) (c_sm 1 (by decide +kernel)) (by omega) q)
theorem c_fstr (hlv : 3 ≤ lv) {b : List Nat} {ps : Pts} (hb : SmR b) (hp : SmP ps) (q : Q (.str (fT b ps)) st) : Sem (prog fa) lv F_Form___str__ [fmP (fa 0) b (.ptp (ps.map ptP))] st Q := by
  obtain ⟨lv, rfl⟩ : ∃ j, lv = j + 1 := ⟨lv - 1, by omega⟩
  have big : sizeLine = 16777216 := rfl
  have hl := hp.ln
  refine go_Form___str__ ?_
  simp only [w_Form___str__, wM, wLc, iVal, wipeP, wPq, wFld, fmP, fldR, sSeq, sIf, sAsg, sRet, sRetN, sNext, sDrop, gNm, gIx, gTp, gCn, gNl, tValP, tTru, truP, tNotP, tAndP, tOrP, wOp, wVar, wC, wCa, wCons, wNil, wTup, wLst, wIf, wCall, wNeg, startP, List.map_cons, List.map_nil, List.cons_append, List.nil_append, List.getElem?_cons_zero, List.getElem?_cons_succ, List.length_cons, List.length_nil, Nat.reduceAdd, Nat.reduceSub, List.replicate_succ, List.replicate_zero, List.set_cons_zero, List.set_cons_succ, Option.some.injEq, exists_eq_left', PV.bl.injEq, PV.int.injEq, PV.str.injEq, PV.ref.injEq, PV.tup.injEq, PV.lst.injEq, Cell.lst.injEq, List.cons.injEq, and_true, true_and, exists_and_left, r_add, r_adds, r_addt, r_addl, r_sub, r_mul, r_fdiv, r_mod, r_pow, r_lt, r_le, r_gt, r_ge, r_eqi, r_nei, r_eqs, r_nes, r_inti, r_intb, r_ixr, r_ixl, r_ixt, r_newt, r_newf, atI_0, atI_1, atI_2, decide_eq_true_eq]
  refine ⟨rfl, 0, by decide +kernel, _, rfl, ?_⟩
  refine c_shrow (by omega) hb ?_
  refine ⟨by omega, 1, by decide +kernel, _, rfl, _, .inl rfl, _, rfl, ?_⟩
  refine lc_fix ptP (fun p => PV.str (sqT p.2 ++ p.1)) ps [] _ trivial (fun p mp Q' q' => ?_) (by rw [List.length_nil]; omega) ?_
  · refine ⟨_, rfl, rfl, _, _, rfl, _, _, rfl, rfl, ?_⟩
    simp only [List.set_cons_zero, List.set_cons_succ, sSeq, sIf, sAsg, sRet, sRetN, sNext, sDrop, gNm, gIx, gTp, gCn, gNl, tValP, tTru, truP, tNotP, tAndP, tOrP, wOp, wVar, wC, wCa, wCons, wNil, wTup, wLst, wIf, wCall, wNeg, startP, List.map_cons, List.map_nil, List.cons_append, List.nil_append, List.getElem?_cons_zero, List.getElem?_cons_succ, List.length_cons, List.length_nil, Nat.reduceAdd, Nat.reduceSub, List.replicate_succ, List.replicate_zero, List.set_cons_zero, List.set_cons_succ, Option.some.injEq, exists_eq_left', PV.bl.injEq, PV.int.injEq, PV.str.injEq, PV.ref.injEq, PV.tup.injEq, PV.lst.injEq, Cell.lst.injEq, List.cons.injEq, and_true, true_and, exists_and_left, r_add, r_adds, r_addt, r_addl, r_sub, r_mul, r_fdiv, r_mod, r_pow, r_lt, r_le, r_gt, r_ge, r_eqi, r_nei, r_eqs, r_nes, r_inti, r_intb, r_ixr, r_ixl, r_ixt, r_newt, r_newf, atI_0, atI_1, atI_2, decide_eq_true_eq]
    refine c_shsq (by omega) (hp.sq p mp) ?_
    exact add_sm (sqT_sm (hp.sq p mp)) (spelt_sm (hp.nm p mp)) (by omega) q'
  · rw [List.nil_append]
    have e : ps.map (fun p => PV.str (sqT p.2 ++ p.1)) = pStrs (ps.map fun p => sqT p.2 ++ p.1) := by unfold pStrs; rw [List.map_map]; rfl
    rw [e]
    refine ⟨by simp [pStrs]; omega, ?_⟩
    have e2 : PV.str (rwT b) :: pStrs (ps.map fun p => sqT p.2 ++ p.1) = pStrs (rwT b :: ps.map fun p => sqT p.2 ++ p.1) := rfl
    rw [e2]
    refine join_do (M := 38) (N := 3) (k := 6) (c_sm 3 (by decide +kernel)) (fun t mt => ?_) (by simp; exact hl) (by omega) q
    rcases List.mem_cons.mp mt with rfl | mt
    · exact (rwT_sm hb).mono (by omega)
    · obtain ⟨p, mp, rfl⟩ := List.mem_map.mp mt
      exact (sqT_sm (hp.sq p mp)).app (spelt_sm (hp.nm p mp))
theorem c_flen (hlv : 1 ≤ lv) {b : List Nat} {ps : Pts} (q : Q (.int (ps.length : Nat)) st) : Sem (prog fa) lv F_Form___len__ [fmP (fa 0) b (.ptp (ps.map ptP))] st Q := by
  obtain ⟨lv, rfl⟩ : ∃ j, lv = j + 1 := ⟨lv - 1, by omega⟩
  refine go_Form___len__ ?_
  simp only [w_Form___len__, wPq, wFld, fmP, fldR, sSeq, sIf, sAsg, sRet, sRetN, sNext, sDrop, gNm, gIx, gTp, gCn, gNl, tValP, tTru, truP, tNotP, tAndP, tOrP, wOp, wVar, wC, wCa, wCons, wNil, wTup, wLst, wIf, wCall, wNeg, startP, List.map_cons, List.map_nil, List.cons_append, List.nil_append, List.getElem?_cons_zero, List.getElem?_cons_succ, List.length_cons, List.length_nil, Nat.reduceAdd, Nat.reduceSub, List.replicate_succ, List.replicate_zero, List.set_cons_zero, List.set_cons_succ, Option.some.injEq, exists_eq_left', PV.bl.injEq, PV.int.injEq, PV.str.injEq, PV.ref.injEq, PV.tup.injEq, PV.lst.injEq, Cell.lst.injEq, List.cons.injEq, and_true, true_and, exists_and_left, r_add, r_adds, r_addt, r_addl, r_sub, r_mul, r_fdiv, r_mod, r_pow, r_lt, r_le, r_gt, r_ge, r_eqi, r_nei, r_eqs, r_nes, r_inti, r_intb, r_ixr, r_ixl, r_ixt, r_newt, r_newf, atI_0, atI_1, atI_2, decide_eq_true_eq]
  refine ⟨1, by decide +kernel, _, rfl, _, .inl rfl, ?_⟩
  refine r_len (show seqP st (PV.tup (ps.map ptP)) = some (ps.map ptP) from rfl) ?_
  rw [List.length_map]; exact q
theorem c_frepr (hlv : 1 ≤ lv) {n : Nat} {b : List Nat} {ps : Pts} (n3 : n ≤ 3) (hb : SmR b) (hg : GoodP n ps) (hp : SmP ps) (q : Q (.str (pgT b ps)) st) : Sem (prog fa) lv F_Form___repr__ [fmP (fa 0) b (.ptp (ps.map ptP))] st Q := by
  obtain ⟨lv, rfl⟩ : ∃ j, lv = j + 1 := ⟨lv - 1, by omega⟩
  have big : sizeLine = 16777216 := rfl
  obtain ⟨d1, o1⟩ := g_row hb.1 (fun k mk => Nat.lt_of_le_of_lt (hb.2 k mk) (by decide))
  obtain ⟨d2, o2⟩ := g_pts n3 hg (by have := hp.ln; omega) (fun p mp r mr k mk => Nat.lt_of_le_of_lt (((hp.sq p mp).2 r mr).2 k mk) (by decide))
  obtain ⟨e1, i1⟩ := datG_D _ d1
  obtain ⟨e2, i2⟩ := datGs_D _ d2
  have eP : datG (.ptp (ps.map ptP)) = .tuple (dats (ps.map ptP)) ∧ isG (.ptp (ps.map ptP)) = true := ⟨by simp only [datG]; rw [e2], by simp only [isG]; exact i2⟩
  refine go_Form___repr__ ?_
  simp only [w_Form___repr__, wFs2, tplW, wJs, wFmtR, wFld, fmP, fldR, sSeq, sIf, sAsg, sRet, sRetN, sNext, sDrop, gNm, gIx, gTp, gCn, gNl, tValP, tTru, truP, tNotP, tAndP, tOrP, wOp, wVar, wC, wCa, wCons, wNil, wTup, wLst, wIf, wCall, wNeg, startP, List.map_cons, List.map_nil, List.cons_append, List.nil_append, List.getElem?_cons_zero, List.getElem?_cons_succ, List.length_cons, List.length_nil, Nat.reduceAdd, Nat.reduceSub, List.replicate_succ, List.replicate_zero, List.set_cons_zero, List.set_cons_succ, Option.some.injEq, exists_eq_left', PV.bl.injEq, PV.int.injEq, PV.str.injEq, PV.ref.injEq, PV.tup.injEq, PV.lst.injEq, Cell.lst.injEq, List.cons.injEq, and_true, true_and, exists_and_left, r_add, r_adds, r_addt, r_addl, r_sub, r_mul, r_fdiv, r_mod, r_pow, r_lt, r_le, r_gt, r_ge, r_eqi, r_nei, r_eqs, r_nes, r_inti, r_intb, r_ixr, r_ixl, r_ixt, r_newt, r_newf, atI_0, atI_1, atI_2, decide_eq_true_eq]
  have s1 : (datG (iR b)).shown = tpT (b.map nS) := by rw [e1, shown_row]
  have s2 : (datG (.ptp (ps.map ptP))).shown = tpT (ps.map ptT) := by rw [eP.1, shown_pts hp.nm]
  have t0 : SmT 5 ("Form(" : Str) := c_sm 5 (by decide +kernel)
  have t1 := trT_sm hb
  have t2 := ppT_sm hp
  have t3 : SmT 2 (", " : Str) := c_sm 2 (by decide +kernel)
  have t4 : SmT 1 (")" : Str) := c_sm 1 (by decide +kernel)
  have e0 : Str.empty ++ ("Form(" : Str) = "Form(" := rfl
  have f1 := t0.app t1
  have f2 := f1.app t3
  have f3 := f2.app t2
  have f4 := f3.app t4
  rw [e0]
  refine ⟨by have := t0.1; omega, 0, by decide +kernel, _, rfl, i1, by rw [e1]; exact o1.show_, ?_⟩
  rw [s1]
  refine ⟨by rw [e1]; exact Nat.le_trans o1.deep (by decide), by have := t1.1; omega, by have := f1.1; omega, by have := f2.1; omega, 1, by decide +kernel, _, rfl, eP.2, by rw [eP.1]; exact o2.show_, ?_⟩
  rw [s2]
  refine ⟨by rw [eP.1]; exact Nat.le_trans o2.deep (by decide), by have := t2.1; omega, by have := f3.1; omega, by have := f4.1; omega, q⟩
theorem c_ltext (hlv : 2 ≤ lv) {b : List Nat} {ps : Pts} (hb : SmR b) (hp : SmP ps) (q : Q (.str (fT b ps)) st) : Sem (prog fa) lv F_law_text [iR b, .ptp (ps.map ptP)] st Q := by
  obtain ⟨lv, rfl⟩ : ∃ j, lv = j + 1 := ⟨lv - 1, by omega⟩
  have big : sizeLine = 16777216 := rfl
  have hl := hp.ln
  refine go_law_text ?_
  simp only [w_law_text, wM, sFor, iVal, wPq, sSeq, sIf, sAsg, sRet, sRetN, sNext, sDrop, gNm, gIx, gTp, gCn, gNl, tValP, tTru, truP, tNotP, tAndP, tOrP, wOp, wVar, wC, wCa, wCons, wNil, wTup, wLst, wIf, wCall, wNeg, startP, List.map_cons, List.map_nil, List.cons_append, List.nil_append, List.getElem?_cons_zero, List.getElem?_cons_succ, List.length_cons, List.length_nil, Nat.reduceAdd, Nat.reduceSub, List.replicate_succ, List.replicate_zero, List.set_cons_zero, List.set_cons_succ, Option.some.injEq, exists_eq_left', PV.bl.injEq, PV.int.injEq, PV.str.injEq, PV.ref.injEq, PV.tup.injEq, PV.lst.injEq, Cell.lst.injEq, List.cons.injEq, and_true, true_and, exists_and_left, r_add, r_adds, r_addt, r_addl, r_sub, r_mul, r_fdiv, r_mod, r_pow, r_lt, r_le, r_gt, r_ge, r_eqi, r_nei, r_eqs, r_nes, r_inti, r_intb, r_ixr, r_ixl, r_ixt, r_newt, r_newf, atI_0, atI_1, atI_2, decide_eq_true_eq]
  refine c_line (by omega) hb ?_
  refine add_sm (c_sm 1 (by decide +kernel)) (lnT_sm hb) (by omega) (add_sm ((c_sm 1 (by decide +kernel)).app (lnT_sm hb)) (c_sm 1 (by decide +kernel)) (by omega) ?_)
  refine ⟨_, .inl rfl, _, rfl, ?_⟩
  refine for_ix (gg := ptP) (as := ps) (I := fun done env st' => st' = st ∧ ∃ x3 x4, env = [some (iR b), some (.ptp (ps.map ptP)), some (.str (done.foldl gS (rwT b))), x3, x4, none] ∧ SmT (11 + 50 * done.length) (done.foldl gS (rwT b))) (fun _ _ _ _ => trivial) ?_ ?_ ⟨rfl, _, _, rfl, rwT_sm hb⟩
  · rintro env st' ⟨rfl, x3, x4, rfl, hz⟩
    simp only [sSeq, sIf, sAsg, sRet, sRetN, sNext, sDrop, gNm, gIx, gTp, gCn, gNl, tValP, tTru, truP, tNotP, tAndP, tOrP, wOp, wVar, wC, wCa, wCons, wNil, wTup, wLst, wIf, wCall, wNeg, startP, List.map_cons, List.map_nil, List.cons_append, List.nil_append, List.getElem?_cons_zero, List.getElem?_cons_succ, List.length_cons, List.length_nil, Nat.reduceAdd, Nat.reduceSub, List.replicate_succ, List.replicate_zero, List.set_cons_zero, List.set_cons_succ, Option.some.injEq, exists_eq_left', PV.bl.injEq, PV.int.injEq, PV.str.injEq, PV.ref.injEq, PV.tup.injEq, PV.lst.injEq, Cell.lst.injEq, List.cons.injEq, and_true, true_and, exists_and_left, r_add, r_adds, r_addt, r_addl, r_sub, r_mul, r_fdiv, r_mod, r_pow, r_lt, r_le, r_gt, r_ge, r_eqi, r_nei, r_eqs, r_nes, r_inti, r_intb, r_ixr, r_ixl, r_ixt, r_newt, r_newf, atI_0, atI_1, atI_2, decide_eq_true_eq]
    rw [gT_eq]
    exact q
  · rintro done p rest hx env st' K ⟨rfl, x3, x4, rfl, hz⟩ hK
    have mp : p ∈ ps := by rw [hx]; simp
    have hdl : done.length < 5 := by have := congrArg List.length hx; rw [List.length_append, List.length_cons] at this; omega
    have hs := hp.sq p mp
    have hsl := hs.1
    refine ⟨_, rfl, rfl, _, _, rfl, _, _, rfl, rfl, ?_⟩
    simp only [List.set_cons_zero, List.set_cons_succ, wM, wLc, iVal, wipeP, sSeq, sIf, sAsg, sRet, sRetN, sNext, sDrop, gNm, gIx, gTp, gCn, gNl, tValP, tTru, truP, tNotP, tAndP, tOrP, wOp, wVar, wC, wCa, wCons, wNil, wTup, wLst, wIf, wCall, wNeg, startP, List.map_cons, List.map_nil, List.cons_append, List.nil_append, List.getElem?_cons_zero, List.getElem?_cons_succ, List.length_cons, List.length_nil, Nat.reduceAdd, Nat.reduceSub, List.replicate_succ, List.replicate_zero, List.set_cons_zero, List.set_cons_succ, Option.some.injEq, exists_eq_left', PV.bl.injEq, PV.int.injEq, PV.str.injEq, PV.ref.injEq, PV.tup.injEq, PV.lst.injEq, Cell.lst.injEq, List.cons.injEq, and_true, true_and, exists_and_left, r_add, r_adds, r_addt, r_addl, r_sub, r_mul, r_fdiv, r_mod, r_pow, r_lt, r_le, r_gt, r_ge, r_eqi, r_nei, r_eqs, r_nes, r_inti, r_intb, r_ixr, r_ixl, r_ixt, r_newt, r_newf, atI_0, atI_1, atI_2, decide_eq_true_eq]
    have c1 : SmT 4 (" + [" : Str) := c_sm 4 (by decide +kernel)
    have c2 : SmT 1 ("]" : Str) := c_sm 1 (by decide +kernel)
    refine ⟨by have := hz.1; have := c1.1; omega, rfl, _, rfl, ?_⟩
    refine lc_fix iR (fun r => PV.str (lnT r)) p.2 [] _ trivial (fun r mr Q' q' => ?_) (by rw [List.length_nil]; omega) ?_
    · simp only [gNm, List.set_cons_zero, List.set_cons_succ, sSeq, sIf, sAsg, sRet, sRetN, sNext, sDrop, gNm, gIx, gTp, gCn, gNl, tValP, tTru, truP, tNotP, tAndP, tOrP, wOp, wVar, wC, wCa, wCons, wNil, wTup, wLst, wIf, wCall, wNeg, startP, List.map_cons, List.map_nil, List.cons_append, List.nil_append, List.getElem?_cons_zero, List.getElem?_cons_succ, List.length_cons, List.length_nil, Nat.reduceAdd, Nat.reduceSub, List.replicate_succ, List.replicate_zero, List.set_cons_zero, List.set_cons_succ, Option.some.injEq, exists_eq_left', PV.bl.injEq, PV.int.injEq, PV.str.injEq, PV.ref.injEq, PV.tup.injEq, PV.lst.injEq, Cell.lst.injEq, List.cons.injEq, and_true, true_and, exists_and_left, r_add, r_adds, r_addt, r_addl, r_sub, r_mul, r_fdiv, r_mod, r_pow, r_lt, r_le, r_gt, r_ge, r_eqi, r_nei, r_eqs, r_nes, r_inti, r_intb, r_ixr, r_ixl, r_ixt, r_newt, r_newf, atI_0, atI_1, atI_2, decide_eq_true_eq]
      exact c_line (by omega) (hs.2 r mr) q'
    · rw [List.nil_append]
      have e : p.2.map (fun r => PV.str (lnT r)) = pStrs (p.2.map lnT) := by unfold pStrs; rw [List.map_map]; rfl
      rw [e]
      refine join_do (M := 9) (N := 1) (k := 3) (c_sm 1 (by decide +kernel)) (fun t mt => ?_) (by simpa using hsl) (by omega) ?_
      · obtain ⟨r, mr, rfl⟩ := List.mem_map.mp mt
        exact lnT_sm (hs.2 r mr)
      · have a1 := hz.app c1
        have a2 := a1.app (jnT_sm hs)
        have a3 := a2.app c2
        have a4 := a3.app (spelt_sm (hp.nm p mp))
        refine add_sm a1 (jnT_sm hs) (by omega) (add_sm a2 c2 (by omega) (add_sm a3 (spelt_sm (hp.nm p mp)) (by omega) ?_))
        refine hK _ _ ⟨rfl, some (.str p.1), some (sqP p.2), ?_, ?_⟩
        · rw [List.foldl_append]; rfl
        · rw [List.foldl_append]
          refine a4.mono ?_
          rw [List.length_append]; simp; omega
end
end K20
namespace K20
open PySem PySem.Spec L2 Pv PySem.W
variable {fa : Nat → Addr}
section
variable {lv : Nat} {st : Sto} {Q : PV → Sto → Prop}
theorem join_doX {x : PV} {s : Str} {ts : List Str} {M N k : Nat} (hx : seqP st x = some (pStrs ts)) (hs : SmT N s) (h : ∀ t ∈ ts, SmT M t) (hk : ts.length ≤ k) (hz : k * (M + N) ≤ 16777216) (q : Q (.str (Str.join s ts)) st) : joinR (.str s) [x] st Q := by
  obtain ⟨a, y, ys, e1, e2, e3, e4, e5⟩ := join_do (st := st) (Q := Q) hs h hk hz q
  cases e1
  cases e2
  have : pStrs ts = pStrs ys := Option.some.inj e3
  exact ⟨_, _, ys, rfl, rfl, by rw [hx, this], e4, e5⟩
theorem c_ltuple (hlv : 1 ≤ lv) {M k : Nat} {ts : List Str} {x : PV} (hx : seqP st x = some (pStrs ts)) (h : ∀ t ∈ ts, SmT M t) (hk : ts.length ≤ k) (hz : k * (M + 2) ≤ 100000) (q : Q (.str (tpT ts)) st) : Sem (prog fa) lv F_law_tuple [x] st Q := by
  obtain ⟨lv, rfl⟩ : ∃ j, lv = j + 1 := ⟨lv - 1, by omega⟩
  have big : sizeLine = 16777216 := rfl
  refine go_law_tuple ?_
  simp only [w_law_tuple, wM, sSeq, sIf, sAsg, sRet, sRetN, sNext, sDrop, gNm, gIx, gTp, gCn, gNl, tValP, tTru, truP, tNotP, tAndP, tOrP, wOp, wVar, wC, wCa, wCons, wNil, wTup, wLst, wIf, wCall, wNeg, startP, List.map_cons, List.map_nil, List.cons_append, List.nil_append, List.getElem?_cons_zero, List.getElem?_cons_succ, List.length_cons, List.length_nil, Nat.reduceAdd, Nat.reduceSub, List.replicate_succ, List.replicate_zero, List.set_cons_zero, List.set_cons_succ, Option.some.injEq, exists_eq_left', PV.bl.injEq, PV.int.injEq, PV.str.injEq, PV.ref.injEq, PV.tup.injEq, PV.lst.injEq, Cell.lst.injEq, List.cons.injEq, and_true, true_and, exists_and_left, r_add, r_adds, r_addt, r_addl, r_sub, r_mul, r_fdiv, r_mod, r_pow, r_lt, r_le, r_gt, r_ge, r_eqi, r_nei, r_eqs, r_nes, r_inti, r_intb, r_ixr, r_ixl, r_ixt, r_newt, r_newf, atI_0, atI_1, atI_2, decide_eq_true_eq]
  have c1 : SmT 1 ("(" : Str) := c_sm 1 (by decide +kernel)
  have c2 : SmT 2 (", " : Str) := c_sm 2 (by decide +kernel)
  have c3 : SmT 1 ("," : Str) := c_sm 1 (by decide +kernel)
  have c4 : SmT 1 (")" : Str) := c_sm 1 (by decide +kernel)
  have hj := SmT.join (k := k) c2 h hk
  have a1 := c1.app hj
  refine ⟨rfl, join_doX hx c2 h hk (by omega) ?_⟩
  refine add_sm c1 hj (by omega) ?_
  refine r_len hx ?_
  refine r_eqi.mpr (r_intb.mpr ?_)
  have hlen : ((pStrs ts).length : Int) = (ts.length : Int) := by simp [pStrs]
  rw [hlen]
  have fin : ∀ (c : Str), c = (if ts.length = 1 then ("," : Str) else Str.empty) → SmT 1 c → addR false (.str ("(" ++ Str.join ", " ts)) (.str c) st fun x st1 => addR false x (.str ")") st1 Q := fun c ec hc => by
    have a2 := a1.app hc
    refine add_sm a1 hc (by omega) (add_sm a2 c4 (by omega) ?_)
    subst ec
    exact q
  by_cases h1 : ts.length = 1
  · have e : ((ts.length : Int) == 1) = true := by rw [h1]; rfl
    rw [e, if_pos rfl]
    refine ⟨by unfold MulOk; decide +kernel, ?_⟩
    refine fin _ ?_ ?_
    · rw [if_pos h1]; decide +kernel
    · exact c_sm 1 (by decide +kernel)
  · have e : ((ts.length : Int) == 1) = false := by simpa using (show ¬ (ts.length : Int) = 1 by omega)
    rw [e, if_neg (by decide)]
    refine ⟨by unfold MulOk; decide +kernel, ?_⟩
    refine fin _ ?_ ?_
    · rw [if_neg h1]; decide +kernel
    · exact c_sm 1 (by decide +kernel)
theorem c_lprog (hlv : 2 ≤ lv) {b : List Nat} {ps : Pts} (hb : SmR b) (hp : SmP ps) (q : ∀ st', Gr [] st st' → Q (.str (pgT b ps)) st') : Sem (prog fa) lv F_law_program [iR b, .ptp (ps.map ptP)] st Q := by
  obtain ⟨lv, rfl⟩ : ∃ j, lv = j + 1 := ⟨lv - 1, by omega⟩
  have big : sizeLine = 16777216 := rfl
  have hl := hp.ln
  refine go_law_program ?_
  simp only [w_law_program, sFor, iVal, wPq, sSeq, sIf, sAsg, sRet, sRetN, sNext, sDrop, gNm, gIx, gTp, gCn, gNl, tValP, tTru, truP, tNotP, tAndP, tOrP, wOp, wVar, wC, wCa, wCons, wNil, wTup, wLst, wIf, wCall, wNeg, startP, List.map_cons, List.map_nil, List.cons_append, List.nil_append, List.getElem?_cons_zero, List.getElem?_cons_succ, List.length_cons, List.length_nil, Nat.reduceAdd, Nat.reduceSub, List.replicate_succ, List.replicate_zero, List.set_cons_zero, List.set_cons_succ, Option.some.injEq, exists_eq_left', PV.bl.injEq, PV.int.injEq, PV.str.injEq, PV.ref.injEq, PV.tup.injEq, PV.lst.injEq, Cell.lst.injEq, List.cons.injEq, and_true, true_and, exists_and_left, r_add, r_adds, r_addt, r_addl, r_sub, r_mul, r_fdiv, r_mod, r_pow, r_lt, r_le, r_gt, r_ge, r_eqi, r_nei, r_eqs, r_nes, r_inti, r_intb, r_ixr, r_ixl, r_ixt, r_newt, r_newf, atI_0, atI_1, atI_2, decide_eq_true_eq]
  refine ⟨Nat.zero_le _, _, .inl rfl, _, rfl, ?_⟩
  refine for_ix (gg := ptP) (as := ps) (I := fun done env st' => ∃ x3 x4 x5, env = [some (iR b), some (.ptp (ps.map ptP)), some (.ref st.length), x3, x4, x5, none, none] ∧ st'[st.length]? = some (.lst (pStrs (done.map ptT))) ∧ Gr [] st st') (fun _ _ _ _ => trivial) ?_ ?_ ⟨_, _, _, rfl, new_at, .new⟩
  · rintro env st' ⟨x3, x4, x5, rfl, hc, g⟩
    simp only [wLc, iVal, wipeP, sSeq, sIf, sAsg, sRet, sRetN, sNext, sDrop, gNm, gIx, gTp, gCn, gNl, tValP, tTru, truP, tNotP, tAndP, tOrP, wOp, wVar, wC, wCa, wCons, wNil, wTup, wLst, wIf, wCall, wNeg, startP, List.map_cons, List.map_nil, List.cons_append, List.nil_append, List.getElem?_cons_zero, List.getElem?_cons_succ, List.length_cons, List.length_nil, Nat.reduceAdd, Nat.reduceSub, List.replicate_succ, List.replicate_zero, List.set_cons_zero, List.set_cons_succ, Option.some.injEq, exists_eq_left', PV.bl.injEq, PV.int.injEq, PV.str.injEq, PV.ref.injEq, PV.tup.injEq, PV.lst.injEq, Cell.lst.injEq, List.cons.injEq, and_true, true_and, exists_and_left, r_add, r_adds, r_addt, r_addl, r_sub, r_mul, r_fdiv, r_mod, r_pow, r_lt, r_le, r_gt, r_ge, r_eqi, r_nei, r_eqs, r_nes, r_inti, r_intb, r_ixr, r_ixl, r_ixt, r_newt, r_newf, atI_0, atI_1, atI_2, decide_eq_true_eq]
    refine ⟨_, rfl, ?_⟩
    refine strs_lc (i := 7) trivial hb (by simp) ?_
    refine c_ltuple (M := 2) (k := 3) (by omega) rfl (nS_sm hb) (by simpa using hb.1) (by omega) ?_
    have c0 : SmT 5 ("Form(" : Str) := c_sm 5 (by decide +kernel)
    have c1 : SmT 2 (", " : Str) := c_sm 2 (by decide +kernel)
    have c2 : SmT 1 (")" : Str) := c_sm 1 (by decide +kernel)
    have a1 := c0.app (trT_sm hb)
    have a2 := a1.app c1
    have a3 := a2.app (ppT_sm hp)
    refine add_sm c0 (trT_sm hb) (by omega) (add_sm a1 c1 (by omega) ?_)
    refine c_ltuple (M := 70) (k := 5) (ts := ps.map ptT) (by omega) (by simp only [seqP, lstP, lstS, hc]) (fun t mt => ?_) (by simpa using hl) (by omega) ?_
    · obtain ⟨p, mp, rfl⟩ := List.mem_map.mp mt
      exact ptT_sm (hp.nm p mp) (hp.sq p mp)
    · exact add_sm a2 (ppT_sm hp) (by omega) (add_sm a3 c2 (by omega) (q _ g))
  · rintro done p rest hx env st' K ⟨x3, x4, x5, rfl, hc, g⟩ hK
    have mp : p ∈ ps := by rw [hx]; simp
    have hdl : done.length < 5 := by have := congrArg List.length hx; rw [List.length_append, List.length_cons] at this; omega
    have hs := hp.sq p mp
    have hsl := hs.1
    refine ⟨_, rfl, rfl, _, _, rfl, _, _, rfl, rfl, ?_⟩
    simp only [List.set_cons_zero, List.set_cons_succ, wM, wLc, iVal, wipeP, sSeq, sIf, sAsg, sRet, sRetN, sNext, sDrop, gNm, gIx, gTp, gCn, gNl, tValP, tTru, truP, tNotP, tAndP, tOrP, wOp, wVar, wC, wCa, wCons, wNil, wTup, wLst, wIf, wCall, wNeg, startP, List.map_cons, List.map_nil, List.cons_append, List.nil_append, List.getElem?_cons_zero, List.getElem?_cons_succ, List.length_cons, List.length_nil, Nat.reduceAdd, Nat.reduceSub, List.replicate_succ, List.replicate_zero, List.set_cons_zero, List.set_cons_succ, Option.some.injEq, exists_eq_left', PV.bl.injEq, PV.int.injEq, PV.str.injEq, PV.ref.injEq, PV.tup.injEq, PV.lst.injEq, Cell.lst.injEq, List.cons.injEq, and_true, true_and, exists_and_left, r_add, r_adds, r_addt, r_addl, r_sub, r_mul, r_fdiv, r_mod, r_pow, r_lt, r_le, r_gt, r_ge, r_eqi, r_nei, r_eqs, r_nes, r_inti, r_intb, r_ixr, r_ixl, r_ixt, r_newt, r_newf, atI_0, atI_1, atI_2, decide_eq_true_eq]
    refine ⟨_, rfl, ?_⟩
    refine lc_fix iR (fun r => PV.str (tpT (r.map nS))) p.2 [] _ trivial (fun r mr Q' q' => ?_) (by rw [List.length_nil]; omega) ?_
    · have hr := hs.2 r mr
      simp only [wLc, iVal, wipeP, List.set_cons_zero, List.set_cons_succ, sSeq, sIf, sAsg, sRet, sRetN, sNext, sDrop, gNm, gIx, gTp, gCn, gNl, tValP, tTru, truP, tNotP, tAndP, tOrP, wOp, wVar, wC, wCa, wCons, wNil, wTup, wLst, wIf, wCall, wNeg, startP, List.map_cons, List.map_nil, List.cons_append, List.nil_append, List.getElem?_cons_zero, List.getElem?_cons_succ, List.length_cons, List.length_nil, Nat.reduceAdd, Nat.reduceSub, List.replicate_succ, List.replicate_zero, List.set_cons_zero, List.set_cons_succ, Option.some.injEq, exists_eq_left', PV.bl.injEq, PV.int.injEq, PV.str.injEq, PV.ref.injEq, PV.tup.injEq, PV.lst.injEq, Cell.lst.injEq, List.cons.injEq, and_true, true_and, exists_and_left, r_add, r_adds, r_addt, r_addl, r_sub, r_mul, r_fdiv, r_mod, r_pow, r_lt, r_le, r_gt, r_ge, r_eqi, r_nei, r_eqs, r_nes, r_inti, r_intb, r_ixr, r_ixl, r_ixt, r_newt, r_newf, atI_0, atI_1, atI_2, decide_eq_true_eq]
      refine ⟨_, rfl, ?_⟩
      refine strs_lc (i := 7) trivial hr (by simp) ?_
      exact c_ltuple (M := 2) (k := 3) (by omega) rfl (nS_sm hr) (by simpa using hr.1) (by omega) q'
    · rw [List.nil_append]
      have e : p.2.map (fun r => PV.str (tpT (r.map nS))) = pStrs (p.2.map fun r => tpT (r.map nS)) := by unfold pStrs; rw [List.map_map]; rfl
      rw [e]
      have c0 : SmT 2 ("('" : Str) := c_sm 2 (by decide +kernel)
      have c1 : SmT 3 ("', " : Str) := c_sm 3 (by decide +kernel)
      have c2 : SmT 1 (")" : Str) := c_sm 1 (by decide +kernel)
      have hn := spelt_sm (hp.nm p mp)
      have a1 := c0.app hn
      have a2 := a1.app c1
      have a3 := a2.app (tsT_sm hs)
      refine ⟨by simp only [tyM, hc], by have := c0.1; have := hn.1; omega, by have := a1.1; have := c1.1; omega, ?_⟩
      refine c_ltuple (M := 15) (k := 3) (by omega) rfl (fun t mt => ?_) (by simpa using hsl) (by omega) ?_
      · obtain ⟨r, mr, rfl⟩ := List.mem_map.mp mt
        exact trT_sm (hs.2 r mr)
      · refine add_sm a2 (tsT_sm hs) (by omega) (add_sm a3 c2 (by omega) ?_)
        refine ⟨_, _, _, rfl, rfl, hc, by simp [pStrs]; omega, ?_⟩
        refine hK _ _ ⟨some (.str p.1), some (sqP p.2), _, rfl, ?_, ((g.nil (es := [st.length])).trans (Gr.set (by simp))).drop (Nat.le_refl _)⟩
        rw [set_at hc]
        unfold pStrs
        rw [List.map_append, List.map_append]; rfl
end
end K20
namespace K20
open PySem PySem.Spec L2 Pv PySem.W
variable {fa : Nat → Addr}
section
variable {lv : Nat} {st : Sto} {Q : PV → Sto → Prop}
structure Lot (n : Nat) (b : List Nat) (ps : Pts) : Prop where
  n1 : 1 ≤ n
  n3 : n ≤ 3
  bl : b.length = n
  bb : ∀ k ∈ b, k ≤ 99
  gp : GoodP n ps
  bp : ∀ p ∈ ps, ∀ r ∈ p.2, ∀ k ∈ r, k ≤ 99
  ln : ps.length ≤ 5
theorem Lot.smr {n : Nat} {b : List Nat} {ps : Pts} (h : Lot n b ps) : SmR b := ⟨by rw [h.bl]; exact h.n3, h.bb⟩
theorem Lot.smp {n : Nat} {b : List Nat} {ps : Pts} (h : Lot n b ps) : SmP ps := ⟨h.ln, fun p mp => (h.gp.ok p mp).1, fun p mp => ⟨by rw [(h.gp.ok p mp).2.1.1]; exact h.n3, fun r mr => ⟨by rw [(h.gp.ok p mp).2.1.2 r mr]; exact h.n3, h.bp p mp r mr⟩⟩⟩
def lotP (b : List Nat) (ps : Pts) : PV := .tup [iR b, .ptp (ps.map ptP)]
theorem c_lgood (hlv : 6 ≤ lv) {m d : Nat} (hd : D8 st d m) (hm : m ≤ 500000)
    (q : ∀ n b ps st', Lot n b ps → Gr [d] st st' → D8 st' d (m + 300) → Q (lotP b ps) st') : Sem (prog fa) lv F_law_good [.ref d] st Q := by
  obtain ⟨lv, rfl⟩ : ∃ j, lv = j + 1 := ⟨lv - 1, by omega⟩
  have big : sizeLine = 16777216 := rfl
  have hd0 := hd.lt
  refine go_law_good ?_
  simp only [w_law_good, sFor, iVal, sSeq, sIf, sAsg, sRet, sRetN, sNext, sDrop, gNm, gIx, gTp, gCn, gNl, tValP, tTru, truP, tNotP, tAndP, tOrP, wOp, wVar, wC, wCa, wCons, wNil, wTup, wLst, wIf, wCall, wNeg, startP, List.map_cons, List.map_nil, List.cons_append, List.nil_append, List.getElem?_cons_zero, List.getElem?_cons_succ, List.length_cons, List.length_nil, Nat.reduceAdd, Nat.reduceSub, List.replicate_succ, List.replicate_zero, List.set_cons_zero, List.set_cons_succ, Option.some.injEq, exists_eq_left', PV.bl.injEq, PV.int.injEq, PV.str.injEq, PV.ref.injEq, PV.tup.injEq, PV.lst.injEq, Cell.lst.injEq, List.cons.injEq, and_true, true_and, exists_and_left, r_add, r_adds, r_addt, r_addl, r_sub, r_mul, r_fdiv, r_mod, r_pow, r_lt, r_le, r_gt, r_ge, r_eqi, r_nei, r_eqs, r_nes, r_inti, r_intb, r_ixr, r_ixl, r_ixt, r_newt, r_newf, atI_0, atI_1, atI_2, decide_eq_true_eq]
  refine c_draw18 (by omega) hd (by omega) (by decide) (by decide) fun v st1 v0 v1 g1 d1 => ?_
  obtain ⟨n0, rfl⟩ := Int.eq_ofNat_of_zero_le v0
  obtain ⟨n, hn0, n1, n3⟩ : ∃ n : Nat, (1 : Int) + (n0 : Nat) = (n : Nat) ∧ 1 ≤ n ∧ n ≤ 3 := ⟨1 + n0, by omega, by omega, by omega⟩
  rw [r_add, hn0]
  refine ⟨Nat.zero_le _, ?_⟩
  refine c_draw18 (by omega) (d1.gr0 .new) (by omega) (by decide) (by decide) fun v2 st3 w0 w1 g3 d3 => ?_
  obtain ⟨c, rfl⟩ := Int.eq_ofNat_of_zero_le w0
  refine c_lunks (k := c) (by omega) (by omega) d3 (by omega) fun ss st4 hl hsp hnd g4 d4 => ?_
  obtain ⟨y1, y2, y3⟩ := alike_strs ss
  refine ⟨_, _, rfl, rfl, y1, y2, y3, ?_⟩
  obtain ⟨us, ey, py, hris⟩ := sort_unks hnd
  rw [ey]
  have hul : us.length ≤ 4 := by rw [py.length_eq, hl]; omega
  have hus : ∀ u ∈ us, Spelt great u := fun u mu => hsp u (py.mem_iff.mp mu)
  have gl : st.length ≤ st1.length := g1.1
  have g34 := g3.trans g4
  have hc4 : st4[st1.length]? = some (.lst []) := g34.2 _ _ (by simp; omega) new_at
  have gA : Gr [d] st st4 := g1.trans ((Gr.new.nil (es := [d])).trans g34)
  refine ⟨pStrs us, rfl, ?_⟩
  refine for_ix (gg := PV.str) (as := us) (I := fun done env st' => ∃ ps x3 x4 x5, env = [some (.ref d), some (.int (n : Nat)), some (.ref st1.length), x3, x4, x5] ∧ st'[st1.length]? = some (.lst (ps.map ptP)) ∧ Gr [d, st1.length] st4 st' ∧ D8 st' d (m + 12 + 28 * done.length) ∧
      GoodP n ps ∧ (∀ p ∈ ps, p.1 ∈ done) ∧ (∀ p ∈ ps, ∀ r ∈ p.2, ∀ k ∈ r, k ≤ 99) ∧ ps.length ≤ done.length) (fun _ _ _ _ => trivial) ?_ ?_ ⟨[], _, _, _, rfl, hc4, .refl, d4.up (by simp), ⟨by simp, nofun, .nil⟩, nofun, nofun, Nat.le_refl _⟩
  · rintro env st' ⟨ps, x3, x4, x5, rfl, hc, g, d', hg, h1, h2, h3⟩
    simp only [sSeq, sIf, sAsg, sRet, sRetN, sNext, sDrop, gNm, gIx, gTp, gCn, gNl, tValP, tTru, truP, tNotP, tAndP, tOrP, wOp, wVar, wC, wCa, wCons, wNil, wTup, wLst, wIf, wCall, wNeg, startP, List.map_cons, List.map_nil, List.cons_append, List.nil_append, List.getElem?_cons_zero, List.getElem?_cons_succ, List.length_cons, List.length_nil, Nat.reduceAdd, Nat.reduceSub, List.replicate_succ, List.replicate_zero, List.set_cons_zero, List.set_cons_succ, Option.some.injEq, exists_eq_left', PV.bl.injEq, PV.int.injEq, PV.str.injEq, PV.ref.injEq, PV.tup.injEq, PV.lst.injEq, Cell.lst.injEq, List.cons.injEq, and_true, true_and, exists_and_left, r_add, r_adds, r_addt, r_addl, r_sub, r_mul, r_fdiv, r_mod, r_pow, r_lt, r_le, r_gt, r_ge, r_eqi, r_nei, r_eqs, r_nes, r_inti, r_intb, r_ixr, r_ixl, r_ixt, r_newt, r_newf, atI_0, atI_1, atI_2, decide_eq_true_eq]
    refine c_lrowd (by omega) n3 d' (by omega) fun x st2 hx g2 d2 => ?_
    obtain ⟨b, rfl, b1, b2⟩ := rw_of hx
    have hc2 := g2.2 _ _ (by simp; omega) hc
    refine ⟨_, ps.map ptP, rfl, by simp only [lstP, lstS, hc2], by omega, ?_⟩
    have gg := g.trans ⟨g2.1, fun j c hj hc => g2.2 j c (by simp only [List.mem_cons, List.not_mem_nil, or_false, not_or] at hj ⊢; exact hj.1) hc⟩
    refine q n b ps st2 ⟨n1, n3, b1, b2, hg, h2, by omega⟩ ⟨Nat.le_trans gA.1 gg.1, fun j c hj hc => ?_⟩ (d2.up (by omega))
    have hj0 := (List.getElem?_eq_some_iff.mp hc).1
    refine gg.2 j c ?_ (gA.2 j c hj hc)
    simp only [List.mem_cons, List.not_mem_nil, or_false] at hj ⊢
    omega
  · rintro done u rest hx env st' K ⟨ps, x3, x4, x5, rfl, hc, g, d', hg, h1, h2, h3⟩ hK
    have mu : u ∈ us := by rw [hx]; simp
    have hdl : done.length < us.length := by rw [hx]; simp
    simp only [wLc, iVal, wipeP, wM, sSeq, sIf, sAsg, sRet, sRetN, sNext, sDrop, gNm, gIx, gTp, gCn, gNl, tValP, tTru, truP, tNotP, tAndP, tOrP, wOp, wVar, wC, wCa, wCons, wNil, wTup, wLst, wIf, wCall, wNeg, startP, List.map_cons, List.map_nil, List.cons_append, List.nil_append, List.getElem?_cons_zero, List.getElem?_cons_succ, List.length_cons, List.length_nil, Nat.reduceAdd, Nat.reduceSub, List.replicate_succ, List.replicate_zero, List.set_cons_zero, List.set_cons_succ, Option.some.injEq, exists_eq_left', PV.bl.injEq, PV.int.injEq, PV.str.injEq, PV.ref.injEq, PV.tup.injEq, PV.lst.injEq, Cell.lst.injEq, List.cons.injEq, and_true, true_and, exists_and_left, r_add, r_adds, r_addt, r_addl, r_sub, r_mul, r_fdiv, r_mod, r_pow, r_lt, r_le, r_gt, r_ge, r_eqi, r_nei, r_eqs, r_nes, r_inti, r_intb, r_ixr, r_ixl, r_ixt, r_newt, r_newf, atI_0, atI_1, atI_2, decide_eq_true_eq]
    refine c_lsquared (by omega) n3 n1 d' (by omega) fun x st2 hx2 g2 d2 => ?_
    obtain ⟨s, rfl, s1, s2⟩ := sq_of hx2
    have gg : Gr [d, st1.length] st4 st2 := g.trans ⟨g2.1, fun j c hj hc => g2.2 j c (by simp only [List.mem_cons, List.not_mem_nil, or_false, not_or] at hj ⊢; exact hj.1) hc⟩
    have hc3 := g2.2 _ _ (by simp; omega) hc
    have dd : D8 st2 d (m + 12 + 28 * (done ++ [u]).length) := d2.up (by simp; omega)
    refine ⟨_, rfl, ?_⟩
    refine tot_walk (by have := s1.1; omega) (by simp) ?_
    refine r_gt.mpr ⟨_, rfl, ?_⟩
    by_cases ht : 0 < tot s
    · rw [decide_eq_true (by omega), if_pos rfl]
      refine ⟨by simp only [tyM, hc3], by omega, _, _, _, rfl, rfl, hc3, by simp; omega, ?_⟩
      have hnew : ∀ p ∈ ps, p.1.cps.toList < u.cps.toList := fun p mp => by
        rw [hx] at hris
        exact (List.pairwise_append.mp hris).2.2 _ (h1 p mp) u List.mem_cons_self
      refine hK _ _ ⟨ps ++ [(u, s)], some (.str u), some (sqP s), _, rfl, ?_, gg.trans (Gr.set (by simp)), ?_, ⟨?_, ?_, ?_⟩, ?_, ?_, ?_⟩
      · rw [set_at hc3, List.map_append]; rfl
      · exact dd.gr (Gr.set (ds := [st1.length]) (by simp)) (by simp; omega)
      · simp; omega
      · intro p mp
        rcases List.mem_append.mp mp with mp | mp
        · exact hg.ok p mp
        · rw [List.mem_singleton.mp mp]; exact ⟨hus u mu, s1, (tot_pos s1).mp ht⟩
      · refine List.pairwise_append.mpr ⟨hg.ris, List.pairwise_singleton _ _, fun p mp p' mp' => ?_⟩
        rw [List.mem_singleton.mp mp']; exact hnew p mp
      · intro p mp
        rcases List.mem_append.mp mp with mp | mp
        · exact List.mem_append_left _ (h1 p mp)
        · rw [List.mem_singleton.mp mp]; simp
      · intro p mp
        rcases List.mem_append.mp mp with mp | mp
        · exact h2 p mp
        · rw [List.mem_singleton.mp mp]; exact s2
      · simp; omega
    · rw [decide_eq_false (by omega), if_neg (by decide)]
      exact hK _ _ ⟨ps, some (.str u), some (sqP s), _, rfl, hc3, gg, dd, hg, fun p mp => List.mem_append_left _ (h1 p mp), h2, by simp; omega⟩
end
end K20
set_option maxHeartbeats 4000000
namespace Pv
open PySem PySem.Spec L2
theorem shaped_lay {d : PyData} (h : SeqAt.shaped d = true) : d.canLay0 = true := by unfold SeqAt.shaped at h; simp only [Bool.and_eq_true] at h; exact h.1
/-- two values that lie as the same data -/
theorem neR_same {x y : PV} {d : PyData} {st : Sto} {Q : PV → Sto → Prop} (hx : datS st x = some d) (hy : datS st y = some d) (hs : SeqAt.shaped d = true) (q : Q (.bl false) st) : neR x y st Q := by
  refine ⟨d, d, hx, hy, hs, hs, ?_⟩
  rw [SeqAt.eqv_refl d (shaped_lay hs)]; exact q
theorem ne_self {x : PV} {st : Sto} {Q : PV → Sto → Prop} (hx : isD x = true) (hs : SeqAt.shaped (dat x) = true) (q : Q (.bl false) st) : neA x x st Q := by
  cases x with
  | str s => exact ne_same q
  | _ => exact neR_same (datS_isD hx) (datS_isD hx) hs q
end Pv
set_option maxHeartbeats 1000000
namespace K20
open PySem PySem.Spec L2 Pv PySem.W
variable {fa : Nat → Addr}
section
variable {lv : Nat} {st : Sto} {Q : PV → Sto → Prop}
theorem parts_lay : ∀ {ps : List (Str × List (List Nat))}, (∀ p ∈ ps, Spelt great p.1) → PyData.canLayAll0 (dats (ps.map ptP)) = true ∧ PyData.depthAll (dats (ps.map ptP)) ≤ 3 ∧ isDs (ps.map ptP) = true
  | [], _ => ⟨rfl, Nat.zero_le _, rfl⟩
  | p :: ps, h => by
    obtain ⟨h1, h2, h3⟩ := parts_lay fun q m => h q (List.mem_cons_of_mem p m)
    obtain ⟨g1, g2, g3⟩ := sq_lay p.2
    have hs : PyData.strOk p.1 = true := (h p List.mem_cons_self).ok great_ok
    refine ⟨?_, ?_, ?_⟩
    · simp only [List.map_cons, dats, ptP, sqP, dat, PyData.canLayAll0, PyData.canLay0, hs, g1, h1, Bool.true_and, Bool.and_true]
    · simp only [List.map_cons, dats, ptP, sqP, dat, PyData.depthAll, PyData.depth]
      omega
    · simp only [List.map_cons, isDs, ptP, sqP, isD, g3, h3, Bool.true_and, Bool.and_true]
theorem pts_eq0 {ps : Pts} (h : ∀ p ∈ ps, Spelt great p.1) : datS st (.tup (ps.map ptP)) = some (.tuple (dats (ps.map ptP))) ∧ SeqAt.shaped (.tuple (dats (ps.map ptP))) = true ∧ PyData.eqv (.tuple (dats (ps.map ptP))) (.tuple []) = decide (ps.length = 0) := by
  obtain ⟨h1, h2, hd⟩ := parts_lay h
  refine ⟨by simp only [datS, isD, hd, if_true, dat], ?_, ?_⟩
  · unfold SeqAt.shaped
    simp only [PyData.canLay0, PyData.depth, h1, Bool.true_and]
    exact decide_eq_true (by omega)
  · cases ps with
    | nil => rfl
    | cons p ps => rfl
theorem ne_pts {ps : Pts} (h : ∀ p ∈ ps, Spelt great p.1) (q : Q (.bl (!decide (ps.length = 0))) st) : neA (.tup (ps.map ptP)) (.tup []) st Q := by
  obtain ⟨e1, e2, e3⟩ := pts_eq0 (st := st) h
  rw [← e3] at q
  exact ⟨_, _, e1, rfl, e2, rfl, q⟩
theorem eq_pts {ps : Pts} (h : ∀ p ∈ ps, Spelt great p.1) (q : Q (.bl (decide (ps.length = 0))) st) : eqA (.tup (ps.map ptP)) (.tup []) st Q := by
  obtain ⟨e1, e2, e3⟩ := pts_eq0 (st := st) h
  rw [← e3] at q
  exact ⟨_, _, e1, rfl, e2, rfl, q⟩
theorem sho_pg {n : Nat} {b : List Nat} {ps : Pts} (hL : Lot n b ps) : ShO (fa 0) "base" "parts" "Form(" ", " ")" st (fmP (fa 0) b (.ptp (ps.map ptP))) (pgT b ps) := by
  have hb := hL.smr
  have hp := hL.smp
  obtain ⟨d1, o1⟩ := g_row hb.1 (fun k mk => Nat.lt_of_le_of_lt (hb.2 k mk) (by decide))
  obtain ⟨d2, o2⟩ := g_pts hL.n3 hL.gp (by have := hp.ln; omega) (fun p mp r mr k mk => Nat.lt_of_le_of_lt (((hp.sq p mp).2 r mr).2 k mk) (by decide))
  have eb : dat (iR b) = .tuple (dats (b.map fun k : Nat => PV.int (k : Nat))) := by simp only [iR, dat]
  refine ⟨iR b, .ptp (ps.map ptP), dats (b.map fun k : Nat => PV.int (k : Nat)), dats (ps.map ptP), rfl, ?_, ?_, ?_, ?_, ?_, ?_, ?_, ?_, ?_⟩
  · have e1 : datS st (iR b) = some (dat (iR b)) := datS_isD d1
    rw [e1, eb]
  · simp only [datS, d2, if_true]
  · rw [← eb]; exact o1.show_
  · exact o2.show_
  · rw [← eb]; exact noDict_dat _ d1
  · have := noDict_dat (.tup (ps.map ptP)) (by simp only [isD]; exact d2)
    simpa only [dat] using this
  · rw [← eb]; exact Nat.le_trans o1.deep (by decide)
  · exact Nat.le_trans o2.deep (by decide)
  · rw [← eb, shown_row, shown_pts hp.nm]; rfl
theorem two_text (z : Str) : tupleText [z, listText [z]] = "(" ++ z ++ ", [" ++ z ++ "])" := by
  rw [tpT_eq]
  refine cps_inj ?_
  rw [tpT_two]
  have e : (listText [z]).cps.toList = ("[" : Str).cps.toList ++ (z.cps.toList ++ ("]" : Str).cps.toList) := by
    have e1 : listText [z] = "[" ++ (if 0 > 0 then ", " else "" : String) ++ z ++ "]" := rfl
    rw [e1]
    simp only [app_list, List.append_assoc]
    rfl
  rw [e]
  simp only [app_list, List.append_assoc]
  rfl
theorem c_lright (hlv : 5 ≤ lv) {n : Nat} {b : List Nat} {ps : Pts} (hL : Lot n b ps) (q : ∀ st', Gr [] st st' → Q (.bl true) st') : Sem (prog fa) lv F_law_right [fmP (fa 0) b (.ptp (ps.map ptP)), iR b, .ptp (ps.map ptP)] st Q := by
  obtain ⟨lv, rfl⟩ : ∃ j, lv = j + 1 := ⟨lv - 1, by omega⟩
  have big : sizeLine = 16777216 := rfl
  have hb := hL.smr
  have hp := hL.smp
  refine go_law_right ?_
  simp only [w_law_right, wPq, sSeq, sIf, sAsg, sRet, sRetN, sNext, sDrop, gNm, gIx, gTp, gCn, gNl, tValP, tTru, truP, tNotP, tAndP, tOrP, wOp, wVar, wC, wCa, wCons, wNil, wTup, wLst, wIf, wCall, wNeg, startP, List.map_cons, List.map_nil, List.cons_append, List.nil_append, List.getElem?_cons_zero, List.getElem?_cons_succ, List.length_cons, List.length_nil, Nat.reduceAdd, Nat.reduceSub, List.replicate_succ, List.replicate_zero, List.set_cons_zero, List.set_cons_succ, Option.some.injEq, exists_eq_left', PV.bl.injEq, PV.int.injEq, PV.str.injEq, PV.ref.injEq, PV.tup.injEq, PV.lst.injEq, Cell.lst.injEq, List.cons.injEq, and_true, true_and, exists_and_left, r_add, r_adds, r_addt, r_addl, r_sub, r_mul, r_fdiv, r_mod, r_pow, r_lt, r_le, r_gt, r_ge, r_eqi, r_nei, r_eqs, r_nes, r_inti, r_intb, r_ixr, r_ixl, r_ixt, r_newt, r_newf, atI_0, atI_1, atI_2, decide_eq_true_eq]
  refine c_ltext (by omega) hb hp ?_
  refine c_lprog (by omega) hb hp fun st1 g1 => ?_
  refine ⟨_, .inl rfl, r_len (show seqP st1 (PV.tup (ps.map ptP)) = some (ps.map ptP) from rfl) ?_⟩
  rw [List.length_map]
  refine ⟨_, .inl rfl, by omega, ne_pts hp.nm ?_⟩
  refine ⟨_, .inl rfl, by omega, eq_pts hp.nm ?_⟩
  refine c_ltext (by omega) hb hp ⟨by omega, ?_⟩
  simp only [wAsS, wAsL, wAsB1, wFmt, wSelf, fmP, sSeq, sIf, sAsg, sRet, sRetN, sNext, sDrop, gNm, gIx, gTp, gCn, gNl, tValP, tTru, truP, tNotP, tAndP, tOrP, wOp, wVar, wC, wCa, wCons, wNil, wTup, wLst, wIf, wCall, wNeg, startP, List.map_cons, List.map_nil, List.cons_append, List.nil_append, List.getElem?_cons_zero, List.getElem?_cons_succ, List.length_cons, List.length_nil, Nat.reduceAdd, Nat.reduceSub, List.replicate_succ, List.replicate_zero, List.set_cons_zero, List.set_cons_succ, Option.some.injEq, exists_eq_left', PV.bl.injEq, PV.int.injEq, PV.str.injEq, PV.ref.injEq, PV.tup.injEq, PV.lst.injEq, Cell.lst.injEq, List.cons.injEq, and_true, true_and, exists_and_left, r_add, r_adds, r_addt, r_addl, r_sub, r_mul, r_fdiv, r_mod, r_pow, r_lt, r_le, r_gt, r_ge, r_eqi, r_nei, r_eqs, r_nes, r_inti, r_intb, r_ixr, r_ixl, r_ixt, r_newt, r_newf, atI_0, atI_1, atI_2, decide_eq_true_eq]
  have z1 := fT_sm hb hp
  have z2 := pgT_sm hb hp
  have hln := hp.ln
  refine ⟨_, _, rfl, by decide +kernel, ?_⟩
  refine c_fstr (by omega) hb hp ⟨_, rfl, ?_⟩
  refine ⟨_, _, rfl, by decide +kernel, ?_⟩
  refine c_frepr (by omega) hL.n3 hb hL.gp hp ⟨_, rfl, ?_⟩
  refine ⟨_, _, rfl, by decide +kernel, ?_⟩
  refine c_flen (by omega) ⟨_, rfl, by omega, by omega, ?_⟩
  refine ⟨_, _, rfl, by decide +kernel, ?_⟩
  refine c_flen (by omega) ⟨_, rfl, by omega, by omega, ?_⟩
  refine ⟨_, _, rfl, by decide +kernel, ?_⟩
  refine c_flen (by omega) ⟨_, rfl, by omega, by omega, ?_⟩
  refine ⟨_, _, rfl, by decide +kernel, ?_⟩
  refine c_fstr (by omega) hb hp ⟨_, rfl, by have := z1.1; omega, ?_⟩
  have b1 : (false ^^ ((ps.length : Int) != 0)) = !decide (ps.length = 0) := by
    by_cases h : ps.length = 0
    · rw [h]; rfl
    · have h2 : ((ps.length : Int) != 0) = true := by simpa using h
      rw [h2, decide_eq_false h]; rfl
  have b2 : (true ^^ ((ps.length : Int) != 0)) = decide (ps.length = 0) := by
    by_cases h : ps.length = 0
    · rw [h]; rfl
    · have h2 : ((ps.length : Int) != 0) = true := by simpa using h
      rw [h2, decide_eq_false h]; rfl
  rw [b1, b2]
  refine ⟨by omega, ?_⟩
  refine ne_self rfl ?_ ⟨_, rfl, ?_⟩
  · unfold SeqAt.shaped
    simp only [dat, dats, PyData.canLay0, PyData.canLayAll0, PyData.depth, PyData.depthAll, z1.2, z2.2, Bool.true_and]
    decide
  rw [if_neg (by decide)]
  have k0 : SmT 1 ("(" : Str) := c_sm 1 (by decide +kernel)
  have k1 : SmT 3 (", [" : Str) := c_sm 3 (by decide +kernel)
  have k2 : SmT 2 ("])" : Str) := c_sm 2 (by decide +kernel)
  have a1 := k0.app z2
  have a2 := a1.app k1
  have a3 := a2.app z2
  have a4 := a3.app k2
  refine ⟨by omega, by omega, _, pgT b ps, rfl, sho_pg hL, ?_, ?_⟩
  · rw [two_text]
    have := a4.1
    omega
  rw [two_text]
  have b0 := k0.1
  have b1 := k1.1
  have b2 := k2.1
  have b3 := z2.1
  have b4 := a1.1
  have b5 := a2.1
  have b6 := a3.1
  refine ⟨by omega, by omega, by omega, by omega, ?_⟩
  exact eq_same (q _ g1)
end
end K20
set_option maxHeartbeats 4000000
namespace K20
open PySem PySem.Spec L2 Pv
/-- a def of the module: its object, its name, its parameters -/
structure IsDef (K : PySem.W.Frag) (mg : Str → Option Value) (x : Str) (st : Stmt) (ps : List Str) : Prop where
  ex : ∃ f fd, Fun K x x st f fd ∧ mg x = some (.ref f) ∧ PySem.W.keepIn K (.ref f) = true ∧ Binds K fd ps []
/-- a method of a class, an __init__ with its last parameter left out or named -/
structure IsMeth (K : PySem.W.Frag) (C : Addr) (m q : Str) (st : Stmt) (ps : List Str) : Prop where
  ex : ∃ f fd, Fun K m q st f fd ∧ Meth K C m f ∧ Binds K fd ps []
structure IsInit (K : PySem.W.Frag) (mg : Str → Option Value) (x : Str) (C : Addr) (q : Str) (st : Stmt) (ps : List Str) (kw : Str) : Prop where
  ex : ∃ f fd, FunD K "__init__" q (defArgs st) (defBody st) (defScope st) [V.non] [] f fd ∧ Mk K C f ∧ mg x = some (.ref C) ∧ Binds K fd ps [] ∧ (∃ ds, Vals [V.non] ds ∧ Binds K fd ps ds) ∧ KBn K fd ps 2 [kw] (fun us ws => us ++ ws) (fun vs zs => vs ++ zs)
theorem meth_of {P : Program} {w : World} {K : PySem.W.Frag} {mg : Str → Option Value} {base : Heap} {k n : Nat} {C : Addr} {m q : Str} {st : Stmt} {ps : List Str} {S : Spc} (D : IsMeth K C m q st ps) (h : ∀ {f fd}, Fun K m q st f fd → FnG P w K mg base k f fd ps (spOf K n S)) : MethC P w K mg base k C m n S := by
  obtain ⟨f, fd, F, a, b⟩ := D.ex
  exact ⟨f, fd, ps, h F, a, b⟩
theorem init_of {P : Program} {w : World} {K : PySem.W.Frag} {mg : Str → Option Value} {base : Heap} {k : Nat} {C : Addr} {x q kw : Str} {st : Stmt} {ps : List Str} {S : Spc} (D : IsInit K mg x C q st ps kw) (h : ∀ {f fd}, FunD K "__init__" q (defArgs st) (defBody st) (defScope st) [V.non] [] f fd → FnG P w K mg base k f fd ps (spOf K 3 S)) : InitC P w K mg base k x C kw S := by
  obtain ⟨f, fd, F, a, b, c, d, g⟩ := D.ex
  exact ⟨f, fd, ps, h F, a, b, c, d, g⟩
structure Defs (K : PySem.W.Frag) (mg : Str → Option Value) (fa : Nat → Addr) : Prop where
  d_is_whole : IsDef K mg "is_whole" s_is_whole ["thing"]
  d_is_spelt : IsDef K mg "is_spelt" s_is_spelt ["thing", "ahead"]
  d_is_unknown : IsDef K mg "is_unknown" s_is_unknown ["thing"]
  d_is_row : IsDef K mg "is_row" s_is_row ["thing"]
  d_is_square : IsDef K mg "is_square" s_is_square ["thing"]
  d_nought : IsDef K mg "nought" s_nought ["width"]
  d_are_parts : IsDef K mg "are_parts" s_are_parts ["thing", "width"]
  d_Form___init__ : IsInit K mg "Form" (fa 0) "Form.__init__" s_Form___init__ ["self", "base", "parts"] "parts"
  d_Form___len__ : IsMeth K (fa 0) "__len__" "Form.__len__" s_Form___len__ ["self"]
  d_Form___str__ : IsMeth K (fa 0) "__str__" "Form.__str__" s_Form___str__ ["self"]
  d_Form___repr__ : IsMeth K (fa 0) "__repr__" "Form.__repr__" s_Form___repr__ ["self"]
  d_shown_numbers : IsDef K mg "shown_numbers" s_shown_numbers ["row"]
  d_shown_row : IsDef K mg "shown_row" s_shown_row ["row"]
  d_shown_square : IsDef K mg "shown_square" s_shown_square ["square"]
  d_law_deck : IsDef K mg "_law_deck" s_law_deck ["_law_script", "_law_k"]
  d_law_draw : IsDef K mg "_law_draw" s_law_draw ["_law_deck_here", "_law_many"]
  d_law_number : IsDef K mg "_law_number" s_law_number ["_law_deck_here"]
  d_law_row : IsDef K mg "_law_row" s_law_row ["_law_deck_here", "_law_size"]
  d_law_square : IsDef K mg "_law_square" s_law_square ["_law_deck_here", "_law_size"]
  d_law_words : IsDef K mg "_law_words" s_law_words ["_law_deck_here", "_law_many"]
  d_law_unknowns : IsDef K mg "_law_unknowns" s_law_unknowns ["_law_deck_here", "_law_many"]
  d_law_line : IsDef K mg "_law_line" s_law_line ["_law_row_here"]
  d_law_text : IsDef K mg "_law_text" s_law_text ["_law_row_here", "_law_some"]
  d_law_tuple : IsDef K mg "_law_tuple" s_law_tuple ["_law_words_here"]
  d_law_program : IsDef K mg "_law_program" s_law_program ["_law_row_here", "_law_some"]
  d_law_good : IsDef K mg "_law_good" s_law_good ["_law_deck_here"]
  d_law_right : IsDef K mg "_law_right" s_law_right ["_law_form", "_law_row_here", "_law_some"]
theorem callee_of {P : Program} {w : World} {K : PySem.W.Frag} {mg : Str → Option Value} {base : Heap} {k n : Nat} {x : Str} {st : Stmt} {ps : List Str} {S : Spc} (D : IsDef K mg x st ps) (h : ∀ {f fd}, Fun K x x st f fd → FnG P w K mg base k f fd ps (spOf K n S)) : Callee P w K mg base k x n S := by
  obtain ⟨f, fd, F, a, b, c⟩ := D.ex
  exact ⟨f, fd, ps, h F, a, b, c⟩
theorem fn_zero {fa : Nat → Addr} {P : Program} {w : World} {K : PySem.W.Frag} {mg : Str → Option Value} {base : Heap} {f : Addr} {fd : FuncData} {ps : List Str} {n g : Nat} : FnG P w K mg base 0 f fd ps (spOf K n (Sem (prog fa) 0 g)) :=
  ⟨fun vs H Q E h => by obtain ⟨ro, fr, xs, st, Qp, a, b, c, d, e⟩ := h; exact d.elim, fun A outer s H args us vs Q hr hg he hb hv h => by obtain ⟨ro, fr, xs, st, Qp, a, b, c, d, e⟩ := h; exact d.elim⟩
theorem new_zero {fa : Nat → Addr} {P : Program} {w : World} {K : PySem.W.Frag} {mg : Str → Option Value} {base : Heap} {x kw : Str} {C : Addr} {S' : Spc} {n g : Nat} (I : InitC P w K mg base 0 x C kw S') : NewC P w K mg base 0 x n (Sem (prog fa) 0 g) := by
  obtain ⟨f, fd, ps, F, M, hm, _⟩ := I.ex
  exact ⟨C, f, M, hm, .inl ⟨rfl, fun xs st Q h => h.elim⟩⟩
theorem newk_zero {fa : Nat → Addr} {P : Program} {w : World} {K : PySem.W.Frag} {mg : Str → Option Value} {base : Heap} {x kw : Str} {C : Addr} {S' : Spc} {n m g : Nat} {ks : List Str} (I : InitC P w K mg base 0 x C kw S') : NewK P w K mg base 0 x m ks n (Sem (prog fa) 0 g) := by
  obtain ⟨f, fd, ps, F, M, hm, _⟩ := I.ex
  exact ⟨C, f, M, hm, .inl ⟨rfl, fun xs st Q h => h.elim⟩⟩
/-- all defs keep their meaning at a level -/
structure Lv (P : Program) (w : World) (K : PySem.W.Frag) (mg : Str → Option Value) (base : Heap) (fa : Nat → Addr) (k : Nat) : Prop where
  c_is_whole : Callee P w K mg base k "is_whole" 1 (Sem (prog fa) k F_is_whole)
  c_is_spelt : Callee P w K mg base k "is_spelt" 2 (Sem (prog fa) k F_is_spelt)
  c_is_unknown : Callee P w K mg base k "is_unknown" 1 (Sem (prog fa) k F_is_unknown)
  c_is_row : Callee P w K mg base k "is_row" 1 (Sem (prog fa) k F_is_row)
  c_is_square : Callee P w K mg base k "is_square" 1 (Sem (prog fa) k F_is_square)
  c_nought : Callee P w K mg base k "nought" 1 (Sem (prog fa) k F_nought)
  c_are_parts : Callee P w K mg base k "are_parts" 2 (Sem (prog fa) k F_are_parts)
  c_Form___init__ : InitC P w K mg base k "Form" (fa 0) "parts" (Sem (prog fa) k F_Form___init__)
  c_Form___len__ : MethC P w K mg base k (fa 0) "__len__" 1 (Sem (prog fa) k F_Form___len__)
  c_Form___str__ : MethC P w K mg base k (fa 0) "__str__" 1 (Sem (prog fa) k F_Form___str__)
  c_Form___repr__ : MethC P w K mg base k (fa 0) "__repr__" 1 (Sem (prog fa) k F_Form___repr__)
  c_shown_numbers : Callee P w K mg base k "shown_numbers" 1 (Sem (prog fa) k F_shown_numbers)
  c_shown_row : Callee P w K mg base k "shown_row" 1 (Sem (prog fa) k F_shown_row)
  c_shown_square : Callee P w K mg base k "shown_square" 1 (Sem (prog fa) k F_shown_square)
  c_law_deck : Callee P w K mg base k "_law_deck" 2 (Sem (prog fa) k F_law_deck)
  c_law_draw : Callee P w K mg base k "_law_draw" 2 (Sem (prog fa) k F_law_draw)
  c_law_number : Callee P w K mg base k "_law_number" 1 (Sem (prog fa) k F_law_number)
  c_law_row : Callee P w K mg base k "_law_row" 2 (Sem (prog fa) k F_law_row)
  c_law_square : Callee P w K mg base k "_law_square" 2 (Sem (prog fa) k F_law_square)
  c_law_words : Callee P w K mg base k "_law_words" 2 (Sem (prog fa) k F_law_words)
  c_law_unknowns : Callee P w K mg base k "_law_unknowns" 2 (Sem (prog fa) k F_law_unknowns)
  c_law_line : Callee P w K mg base k "_law_line" 1 (Sem (prog fa) k F_law_line)
  c_law_text : Callee P w K mg base k "_law_text" 2 (Sem (prog fa) k F_law_text)
  c_law_tuple : Callee P w K mg base k "_law_tuple" 1 (Sem (prog fa) k F_law_tuple)
  c_law_program : Callee P w K mg base k "_law_program" 2 (Sem (prog fa) k F_law_program)
  c_law_good : Callee P w K mg base k "_law_good" 1 (Sem (prog fa) k F_law_good)
  c_law_right : Callee P w K mg base k "_law_right" 3 (Sem (prog fa) k F_law_right)
  c_new_Form_2 : NewC P w K mg base k "Form" 2 (Sem (prog fa) k F_new_Form_2)
  k_new_Form_2 : NewK P w K mg base k "Form" 1 ["parts"] 2 (Sem (prog fa) k F_new_Form_2)
theorem lv_all {P : Program} {w : World} {K : PySem.W.Frag} {mg : Str → Option Value} {base : Heap} {fa : Nat → Addr} (T : Txt mg) (CT : CTs K mg fa) (D : Defs K mg fa) : ∀ k, Lv P w K mg base fa k
  | 0 => ⟨callee_of D.d_is_whole fun _ => fn_zero, callee_of D.d_is_spelt fun _ => fn_zero, callee_of D.d_is_unknown fun _ => fn_zero, callee_of D.d_is_row fun _ => fn_zero, callee_of D.d_is_square fun _ => fn_zero, callee_of D.d_nought fun _ => fn_zero, callee_of D.d_are_parts fun _ => fn_zero, init_of D.d_Form___init__ fun _ => fn_zero, meth_of D.d_Form___len__ fun _ => fn_zero, meth_of D.d_Form___str__ fun _ => fn_zero, meth_of D.d_Form___repr__ fun _ => fn_zero, callee_of D.d_shown_numbers fun _ => fn_zero, callee_of D.d_shown_row fun _ => fn_zero, callee_of D.d_shown_square fun _ => fn_zero, callee_of D.d_law_deck fun _ => fn_zero, callee_of D.d_law_draw fun _ => fn_zero, callee_of D.d_law_number fun _ => fn_zero, callee_of D.d_law_row fun _ => fn_zero, callee_of D.d_law_square fun _ => fn_zero, callee_of D.d_law_words fun _ => fn_zero, callee_of D.d_law_unknowns fun _ => fn_zero, callee_of D.d_law_line fun _ => fn_zero, callee_of D.d_law_text fun _ => fn_zero, callee_of D.d_law_tuple fun _ => fn_zero, callee_of D.d_law_program fun _ => fn_zero, callee_of D.d_law_good fun _ => fn_zero, callee_of D.d_law_right fun _ => fn_zero, new_zero (init_of (P := P) (w := w) (base := base) (S := Sem (prog fa) 0 F_Form___init__) D.d_Form___init__ fun _ => fn_zero), newk_zero (init_of (P := P) (w := w) (base := base) (S := Sem (prog fa) 0 F_Form___init__) D.d_Form___init__ fun _ => fn_zero)⟩
  | k + 1 => by
    have L : Lv P w K mg base fa k := lv_all T CT D k
    exact ⟨callee_of D.d_is_whole fun F => ok_is_whole (fa := fa) F T CT fun xs sto Q _ h => (qd_is_whole (fa := fa) (Sem (prog fa) k)) ▸ h,
      callee_of D.d_is_spelt fun F => ok_is_spelt (fa := fa) F T CT fun xs sto Q _ h => (qd_is_spelt (fa := fa) (Sem (prog fa) k)) ▸ h,
      callee_of D.d_is_unknown fun F => ok_is_unknown (fa := fa) F T CT L.c_is_spelt fun xs sto Q _ h => (qd_is_unknown (fa := fa) (Sem (prog fa) k)) ▸ h,
      callee_of D.d_is_row fun F => ok_is_row (fa := fa) F T CT L.c_is_whole fun xs sto Q _ h => (qd_is_row (fa := fa) (Sem (prog fa) k)) ▸ h,
      callee_of D.d_is_square fun F => ok_is_square (fa := fa) F T CT L.c_is_row fun xs sto Q _ h => (qd_is_square (fa := fa) (Sem (prog fa) k)) ▸ h,
      callee_of D.d_nought fun F => ok_nought (fa := fa) F T CT fun xs sto Q _ h => (qd_nought (fa := fa) (Sem (prog fa) k)) ▸ h,
      callee_of D.d_are_parts fun F => ok_are_parts (fa := fa) F T CT L.c_is_unknown L.c_is_square L.c_nought fun xs sto Q _ h => (qd_are_parts (fa := fa) (Sem (prog fa) k)) ▸ h,
      init_of D.d_Form___init__ fun F => ok_Form___init__ (fa := fa) F T CT L.c_is_row L.c_are_parts fun xs sto Q _ h => (qd_Form___init__ (fa := fa) (Sem (prog fa) k)) ▸ h,
      meth_of D.d_Form___len__ fun F => ok_Form___len__ (fa := fa) F T CT fun xs sto Q _ h => (qd_Form___len__ (fa := fa) (Sem (prog fa) k)) ▸ h,
      meth_of D.d_Form___str__ fun F => ok_Form___str__ (fa := fa) F T CT L.c_shown_row L.c_shown_square fun xs sto Q _ h => (qd_Form___str__ (fa := fa) (Sem (prog fa) k)) ▸ h,
      meth_of D.d_Form___repr__ fun F => ok_Form___repr__ (fa := fa) F T CT fun xs sto Q _ h => (qd_Form___repr__ (fa := fa) (Sem (prog fa) k)) ▸ h,
      callee_of D.d_shown_numbers fun F => ok_shown_numbers (fa := fa) F T CT fun xs sto Q _ h => (qd_shown_numbers (fa := fa) (Sem (prog fa) k)) ▸ h,
      callee_of D.d_shown_row fun F => ok_shown_row (fa := fa) F T CT L.c_shown_numbers fun xs sto Q _ h => (qd_shown_row (fa := fa) (Sem (prog fa) k)) ▸ h,
      callee_of D.d_shown_square fun F => ok_shown_square (fa := fa) F T CT L.c_shown_numbers fun xs sto Q _ h => (qd_shown_square (fa := fa) (Sem (prog fa) k)) ▸ h,
      callee_of D.d_law_deck fun F => ok_law_deck (fa := fa) F T CT fun xs sto Q _ h => (qd_law_deck (fa := fa) (Sem (prog fa) k)) ▸ h,
      callee_of D.d_law_draw fun F => ok_law_draw (fa := fa) F T CT fun xs sto Q _ h => (qd_law_draw (fa := fa) (Sem (prog fa) k)) ▸ h,
      callee_of D.d_law_number fun F => ok_law_number (fa := fa) F T CT L.c_law_draw fun xs sto Q _ h => (qd_law_number (fa := fa) (Sem (prog fa) k)) ▸ h,
      callee_of D.d_law_row fun F => ok_law_row (fa := fa) F T CT L.c_law_number fun xs sto Q _ h => (qd_law_row (fa := fa) (Sem (prog fa) k)) ▸ h,
      callee_of D.d_law_square fun F => ok_law_square (fa := fa) F T CT L.c_law_draw L.c_law_row fun xs sto Q _ h => (qd_law_square (fa := fa) (Sem (prog fa) k)) ▸ h,
      callee_of D.d_law_words fun F => ok_law_words (fa := fa) F T CT L.c_law_draw fun xs sto Q _ h => (qd_law_words (fa := fa) (Sem (prog fa) k)) ▸ h,
      callee_of D.d_law_unknowns fun F => ok_law_unknowns (fa := fa) F T CT L.c_law_words fun xs sto Q _ h => (qd_law_unknowns (fa := fa) (Sem (prog fa) k)) ▸ h,
      callee_of D.d_law_line fun F => ok_law_line (fa := fa) F T CT fun xs sto Q _ h => (qd_law_line (fa := fa) (Sem (prog fa) k)) ▸ h,
      callee_of D.d_law_text fun F => ok_law_text (fa := fa) F T CT L.c_law_line fun xs sto Q _ h => (qd_law_text (fa := fa) (Sem (prog fa) k)) ▸ h,
      callee_of D.d_law_tuple fun F => ok_law_tuple (fa := fa) F T CT fun xs sto Q _ h => (qd_law_tuple (fa := fa) (Sem (prog fa) k)) ▸ h,
      callee_of D.d_law_program fun F => ok_law_program (fa := fa) F T CT L.c_law_tuple fun xs sto Q _ h => (qd_law_program (fa := fa) (Sem (prog fa) k)) ▸ h,
      callee_of D.d_law_good fun F => ok_law_good (fa := fa) F T CT L.c_law_draw L.c_law_unknowns L.c_law_square L.c_law_row fun xs sto Q _ h => (qd_law_good (fa := fa) (Sem (prog fa) k)) ▸ h,
      callee_of D.d_law_right fun F => ok_law_right (fa := fa) F T CT L.c_law_text L.c_law_program L.c_Form___str__ L.c_Form___repr__ L.c_Form___len__ fun xs sto Q _ h => (qd_law_right (fa := fa) (Sem (prog fa) k)) ▸ h,
      L.c_Form___init__.new2 fun xs st Q hl h => new2_R (a := "a0") (b := "a1") (c := "self") (D := { nx := fun _ st' => Q .non st', rt := Q }) hl rfl h,
      L.c_Form___init__.newk fun xs st Q hl h => new2_R (a := "a0") (b := "a1") (c := "self") (D := { nx := fun _ st' => Q .non st', rt := Q }) hl rfl h⟩
/-- the law answers True, where its reading does -/
theorem main {P : Program} {w : World} {K : PySem.W.Frag} {mg : Str → Option Value} {base : Heap} {f : Addr} {fd : FuncData} {fa : Nat → Addr} (T : Txt mg) (CT : CTs K mg fa) (D : Defs K mg fa) (F : Fun K "law" "law" s_law f fd) {k : Nat} (h : ∀ (ns : List Int) (Q : PV → Sto → Prop), ns.length ≤ 63 → (∀ st', Q (.bl true) st') → Sem (prog fa) (k + 1) F_law [.fls (pInts ns)] [] Q) : FnG P w K mg base (k + 1) f fd ["_law_script"] (spOf K 1 lawS) := by
  have L : Lv P w K mg base fa k := lv_all T CT D k
  refine ok_law (fa := fa) F T CT L.c_law_deck L.c_law_good L.c_new_Form_2 L.c_law_right fun xs sto Q _ hl => ?_
  obtain ⟨ns, rfl, hn, rfl, q⟩ := hl
  have := h ns Q hn q
  exact (qd_law (fa := fa) (Sem (prog fa) k)) ▸ this
end K20
set_option maxHeartbeats 1000000
namespace K20
open PySem PySem.Spec L2 Pv PySem.W
variable {fa : Nat → Addr}
section
theorem lots_of : ∀ {xs ys : List PV}, All2 (fun _ y => ∃ (n : Nat) (l : List Nat × Pts), y = lotP l.1 l.2 ∧ Lot n l.1 l.2) xs ys → ∃ L : List (List Nat × Pts), ys = (L.map fun l => lotP l.1 l.2) ∧ L.length = xs.length ∧ ∀ l ∈ L, ∃ n, Lot n l.1 l.2
  | [], _, .nil => ⟨[], rfl, rfl, nofun⟩
  | x :: xs, _, .cons ⟨n, l, e, hl⟩ b => by
    obtain ⟨L, rfl, h1, h2⟩ := lots_of b
    subst e
    exact ⟨l :: L, rfl, by simp [h1], fun z mz => by
      rcases List.mem_cons.mp mz with rfl | mz
      · exact ⟨n, hl⟩
      · exact h2 z mz⟩
def rowP (C : Addr) (l : List Nat × Pts) : PV := .tup [fmP C l.1 (.ptp (l.2.map ptP)), iR l.1, .ptp (l.2.map ptP)]
theorem law_true {fa : Nat → Addr} (ns : List Int) (Q : PV → Sto → Prop) (hn : ns.length ≤ 63) (q : ∀ st', Q (.bl true) st') : Sem (prog fa) (59 + 1) F_law [.fls (pInts ns)] [] Q := by
  refine go_law ?_
  have big : sizeLine = 16777216 := rfl
  simp only [w_law, sFor, iRg1, sSeq, sIf, sAsg, sRet, sRetN, sNext, sDrop, gNm, gIx, gTp, gCn, gNl, tValP, tTru, truP, tNotP, tAndP, tOrP, wOp, wVar, wC, wCa, wCons, wNil, wTup, wLst, wIf, wCall, wNeg, startP, List.map_cons, List.map_nil, List.cons_append, List.nil_append, List.getElem?_cons_zero, List.getElem?_cons_succ, List.length_cons, List.length_nil, Nat.reduceAdd, Nat.reduceSub, List.replicate_succ, List.replicate_zero, List.set_cons_zero, List.set_cons_succ, Option.some.injEq, exists_eq_left', PV.bl.injEq, PV.int.injEq, PV.str.injEq, PV.ref.injEq, PV.tup.injEq, PV.lst.injEq, Cell.lst.injEq, List.cons.injEq, and_true, true_and, exists_and_left, r_add, r_adds, r_addt, r_addl, r_sub, r_mul, r_fdiv, r_mod, r_pow, r_lt, r_le, r_gt, r_ge, r_eqi, r_nei, r_eqs, r_nes, r_inti, r_intb, r_ixr, r_ixl, r_ixt, r_newt, r_newf, atI_0, atI_1, atI_2, decide_eq_true_eq]
  refine r_len (ys := pInts ns) rfl ?_
  rw [r_min]
  refine r_max.mpr ?_
  have hlen : (pInts ns).length = ns.length := by simp [pInts]
  rw [hlen]
  generalize hM : (if (if 6 < (ns.length : Int) then 6 else (ns.length : Int)) > 1 then if 6 < (ns.length : Int) then 6 else (ns.length : Int) else 1) = M
  have hM1 : 1 ≤ M ∧ M ≤ 6 := by rw [← hM]; split <;> split <;> omega
  refine ⟨_, rfl, ⟨by omega, by omega⟩, ?_⟩
  have hz6 : M.toNat ≤ 6 := by omega
  generalize M.toNat = z at hz6
  rw [show rgP 0 z = (List.range z).map fun i : Nat => PV.int (0 + (i : Nat)) from rfl]
  refine for_ix (gg := fun i : Nat => PV.int (0 + (i : Nat))) (I := fun done env st' => ∃ e1 e2 e3 e4 e5 e6 e7 e8, env = [some (.fls (pInts ns)), e1, e2, e3, e4, e5, e6, e7, e8]) (fun _ _ _ _ => trivial) ?_ ?_ ⟨_, _, _, _, _, _, _, _, rfl⟩
  · rintro env st' ⟨e1, e2, e3, e4, e5, e6, e7, e8, rfl⟩
    exact q st'
  · rintro done k rest hx env st' K ⟨e1, e2, e3, e4, e5, e6, e7, e8, rfl⟩ hK
    have hk : k < z := List.mem_range.mp (by rw [hx]; simp)
    simp only [gNm, wLc, iRg1, iVal, sFor, wipeP, Int.zero_add, sSeq, sIf, sAsg, sRet, sRetN, sNext, sDrop, gNm, gIx, gTp, gCn, gNl, tValP, tTru, truP, tNotP, tAndP, tOrP, wOp, wVar, wC, wCa, wCons, wNil, wTup, wLst, wIf, wCall, wNeg, startP, List.map_cons, List.map_nil, List.cons_append, List.nil_append, List.getElem?_cons_zero, List.getElem?_cons_succ, List.length_cons, List.length_nil, Nat.reduceAdd, Nat.reduceSub, List.replicate_succ, List.replicate_zero, List.set_cons_zero, List.set_cons_succ, Option.some.injEq, exists_eq_left', PV.bl.injEq, PV.int.injEq, PV.str.injEq, PV.ref.injEq, PV.tup.injEq, PV.lst.injEq, Cell.lst.injEq, List.cons.injEq, and_true, true_and, exists_and_left, r_add, r_adds, r_addt, r_addl, r_sub, r_mul, r_fdiv, r_mod, r_pow, r_lt, r_le, r_gt, r_ge, r_eqi, r_nei, r_eqs, r_nes, r_inti, r_intb, r_ixr, r_ixl, r_ixt, r_newt, r_newf, atI_0, atI_1, atI_2, decide_eq_true_eq]
    refine c_deck18 (by omega) (by omega) (by omega) fun d st1 d1 g1 => ?_
    refine ⟨⟨by omega, by omega⟩, ?_⟩
    refine lc_mapI [d] 2 (fun j st => D8 st d (300 * j)) (fun _ y => ∃ (n : Nat) (l : List Nat × Pts), y = lotP l.1 l.2 ∧ Lot n l.1 l.2) (fun _ _ _ => trivial) _ _ 0 _ _ (fun x hx2 j st Q' hj hI k' => ?_) (d1.up (by omega)) (by decide) (by decide) fun ys st5 hA d5 g5 => ?_
    · simp only [List.set_cons_zero, List.set_cons_succ, sSeq, sIf, sAsg, sRet, sRetN, sNext, sDrop, gNm, gIx, gTp, gCn, gNl, tValP, tTru, truP, tNotP, tAndP, tOrP, wOp, wVar, wC, wCa, wCons, wNil, wTup, wLst, wIf, wCall, wNeg, startP, List.map_cons, List.map_nil, List.cons_append, List.nil_append, List.getElem?_cons_zero, List.getElem?_cons_succ, List.length_cons, List.length_nil, Nat.reduceAdd, Nat.reduceSub, List.replicate_succ, List.replicate_zero, List.set_cons_zero, List.set_cons_succ, Option.some.injEq, exists_eq_left', PV.bl.injEq, PV.int.injEq, PV.str.injEq, PV.ref.injEq, PV.tup.injEq, PV.lst.injEq, Cell.lst.injEq, List.cons.injEq, and_true, true_and, exists_and_left, r_add, r_adds, r_addt, r_addl, r_sub, r_mul, r_fdiv, r_mod, r_pow, r_lt, r_le, r_gt, r_ge, r_eqi, r_nei, r_eqs, r_nes, r_inti, r_intb, r_ixr, r_ixl, r_ixt, r_newt, r_newf, atI_0, atI_1, atI_2, decide_eq_true_eq]
      exact c_lgood (by omega) hI (by omega) fun n b ps st' hLt g d' => k' _ _ ⟨n, (b, ps), rfl, hLt⟩ (d'.up (by omega)) g
    obtain ⟨L, rfl, hL2, hL⟩ := lots_of hA
    have hL2 : L.length = 2 := hL2
    rw [List.nil_append]
    refine ⟨_, rfl, ?_⟩
    refine lc_fix (fun l : List Nat × Pts => lotP l.1 l.2) (rowP (fa 0)) L [] _ trivial (fun l ml Q' q' => ?_) (by rw [List.length_nil]; omega) ?_
    · obtain ⟨n, hl⟩ := hL l ml
      refine ⟨_, rfl, rfl, _, _, rfl, _, _, rfl, rfl, ?_⟩
      simp only [List.set_cons_zero, List.set_cons_succ, sSeq, sIf, sAsg, sRet, sRetN, sNext, sDrop, gNm, gIx, gTp, gCn, gNl, tValP, tTru, truP, tNotP, tAndP, tOrP, wOp, wVar, wC, wCa, wCons, wNil, wTup, wLst, wIf, wCall, wNeg, startP, List.map_cons, List.map_nil, List.cons_append, List.nil_append, List.getElem?_cons_zero, List.getElem?_cons_succ, List.length_cons, List.length_nil, Nat.reduceAdd, Nat.reduceSub, List.replicate_succ, List.replicate_zero, List.set_cons_zero, List.set_cons_succ, Option.some.injEq, exists_eq_left', PV.bl.injEq, PV.int.injEq, PV.str.injEq, PV.ref.injEq, PV.tup.injEq, PV.lst.injEq, Cell.lst.injEq, List.cons.injEq, and_true, true_and, exists_and_left, r_add, r_adds, r_addt, r_addl, r_sub, r_mul, r_fdiv, r_mod, r_pow, r_lt, r_le, r_gt, r_ge, r_eqi, r_nei, r_eqs, r_nes, r_inti, r_intb, r_ixr, r_ixl, r_ixt, r_newt, r_newf, atI_0, atI_1, atI_2, decide_eq_true_eq]
      have h1 := hl.n1
      have h3 := hl.n3
      have h5 := hl.bl
      refine c_form (by omega) (by omega) (by omega) (by rw [h5]; exact hl.gp) ⟨by omega, q'⟩
    rw [List.nil_append]
    refine revA_lst rfl ?_
    show addR false (.lst (L.map (rowP (fa 0)))) (.lst (L.map (rowP (fa 0))).reverse) _ _
    refine r_addl.mpr ⟨by simp [hL2, big], ?_⟩
    have eL : L.map (rowP (fa 0)) ++ (L.map (rowP (fa 0))).reverse = (L ++ L.reverse).map (rowP (fa 0)) := by rw [List.map_append, List.map_reverse]
    rw [eL]
    refine ⟨_, rfl, ?_⟩
    have hL2' : ∀ l ∈ L ++ L.reverse, ∃ n, Lot n l.1 l.2 := fun l ml => by
      rcases List.mem_append.mp ml with ml | ml
      · exact hL l ml
      · exact hL l (List.mem_reverse.mp ml)
    refine for_ix (gg := rowP (fa 0)) (as := L ++ L.reverse) (I := fun done env st' => ∃ e1 e2 e3 e4 e5 e6 e7 e8, env = [some (.fls (pInts ns)), e1, e2, e3, e4, e5, e6, e7, e8]) (fun _ _ _ _ => trivial) ?_ ?_ ⟨_, _, _, _, _, _, _, _, rfl⟩
    · rintro env st' ⟨e1, e2, e3, e4, e5, e6, e7, e8, rfl⟩
      exact hK _ _ ⟨_, _, _, _, _, _, _, _, rfl⟩
    · rintro dn l rs hx2 env st6 K2 ⟨e1, e2, e3, e4, e5, e6, e7, e8, rfl⟩ hK2
      obtain ⟨n, hl⟩ := hL2' l (by rw [hx2]; simp)
      refine ⟨_, rfl, rfl, _, _, rfl, _, _, rfl, _, _, rfl, rfl, ?_⟩
      simp only [List.set_cons_zero, List.set_cons_succ, sSeq, sIf, sAsg, sRet, sRetN, sNext, sDrop, gNm, gIx, gTp, gCn, gNl, tValP, tTru, truP, tNotP, tAndP, tOrP, wOp, wVar, wC, wCa, wCons, wNil, wTup, wLst, wIf, wCall, wNeg, startP, List.map_cons, List.map_nil, List.cons_append, List.nil_append, List.getElem?_cons_zero, List.getElem?_cons_succ, List.length_cons, List.length_nil, Nat.reduceAdd, Nat.reduceSub, List.replicate_succ, List.replicate_zero, List.set_cons_zero, List.set_cons_succ, Option.some.injEq, exists_eq_left', PV.bl.injEq, PV.int.injEq, PV.str.injEq, PV.ref.injEq, PV.tup.injEq, PV.lst.injEq, Cell.lst.injEq, List.cons.injEq, and_true, true_and, exists_and_left, r_add, r_adds, r_addt, r_addl, r_sub, r_mul, r_fdiv, r_mod, r_pow, r_lt, r_le, r_gt, r_ge, r_eqi, r_nei, r_eqs, r_nes, r_inti, r_intb, r_ixr, r_ixl, r_ixt, r_newt, r_newf, atI_0, atI_1, atI_2, decide_eq_true_eq]
      refine c_lright (by omega) hl fun st7 g7 => ⟨_, rfl, ?_⟩
      rw [if_neg (by decide)]
      exact hK2 _ _ ⟨_, _, _, _, _, _, _, _, rfl⟩
end
end K20
set_option maxHeartbeats 4000000
namespace K20
open PySem PySem.Spec L2 Pv
theorem init_Form {K : PySem.W.Frag} {f : Addr} {fd : FuncData} (F : FunD K "__init__" "Form.__init__" (defArgs s_Form___init__) (defBody s_Form___init__) (defScope s_Form___init__) [V.non] [] f fd) :
    Binds K fd ["self", "base", "parts"] [] ∧ (∃ ds, Vals [V.non] ds ∧ Binds K fd ["self", "base", "parts"] ds) ∧ KBn K fd ["self", "base", "parts"] 2 ["parts"] (fun us ws => us ++ ws) (fun vs zs => vs ++ zs) := by
  refine ⟨?_, ?_, ?_⟩
  · obtain ⟨ds, h1, h2⟩ := F.binds1 (ps := ["self", "base", "parts"]) 3 1 (by simp) rfl fun T kV doc pm an cdv ct us its h1 h2 => match us, its, h1, h2 with | [_, _, _], [_], _, _ => ⟨_, rfl, rfl⟩
    cases h1
    exact h2
  · exact F.binds1 (ps := ["self", "base", "parts"]) 2 0 (by simp) rfl fun T kV doc pm an cdv ct us its h1 h2 => match us, its, h1, h2 with | [_, _], [_], _, _ => ⟨_, rfl, rfl⟩
  · obtain ⟨its, h⟩ := F.kbindsD (ps := ["self", "base", "parts"]) 2 ["parts"] (fun vs _ zs => vs ++ zs) (by simp) (fun a _ c => a.append c) fun T kV doc pm an cdv ct us its ws h1 h2 h3 => match us, its, ws, h1, h2, h3 with | [_, _], [_], [_], _, _, _ => ⟨_, rfl, rfl⟩
    exact h
theorem all_mk {l : PySem.W.OpenLaw} {w : World} {K : PySem.W.Frag} {h : Heap} {mg : Str → Option Value} {fa : Addr} (X : K.In h) (G : h.Ns mainGlobals mg) (hfa : mg "law" = some (.ref fa))
    {od0 an0 : Option Addr} {sl0 : Array (Option Value)} {oc0 kV0 dc0 pm0 cd0 ct0 : Value} {f0 : Addr} {od1 an1 : Option Addr} {sl1 : Array (Option Value)} {oc1 kV1 dc1 pm1 cd1 ct1 : Value} {f1 : Addr} {od2 an2 : Option Addr} {sl2 : Array (Option Value)} {oc2 kV2 dc2 pm2 cd2 ct2 : Value} {f2 : Addr} {od3 an3 : Option Addr} {sl3 : Array (Option Value)} {oc3 kV3 dc3 pm3 cd3 ct3 : Value} {f3 : Addr} {od4 an4 : Option Addr} {sl4 : Array (Option Value)} {oc4 kV4 dc4 pm4 cd4 ct4 : Value} {f4 : Addr} {od5 an5 : Option Addr} {sl5 : Array (Option Value)} {oc5 kV5 dc5 pm5 cd5 ct5 : Value} {f5 : Addr} {od6 an6 : Option Addr} {sl6 : Array (Option Value)} {oc6 kV6 dc6 pm6 cd6 ct6 : Value} {f6 : Addr} {od7 an7 : Option Addr} {sl7 : Array (Option Value)} {oc7 kV7 dc7 pm7 cd7 ct7 : Value} {f7 : Addr} {od8 an8 : Option Addr} {sl8 : Array (Option Value)} {oc8 kV8 dc8 pm8 cd8 ct8 : Value} {f8 : Addr} {od9 an9 : Option Addr} {sl9 : Array (Option Value)} {oc9 kV9 dc9 pm9 cd9 ct9 : Value} {f9 : Addr} {od10 an10 : Option Addr} {sl10 : Array (Option Value)} {oc10 kV10 dc10 pm10 cd10 ct10 : Value} {f10 : Addr} {od11 an11 : Option Addr} {sl11 : Array (Option Value)} {oc11 kV11 dc11 pm11 cd11 ct11 : Value} {f11 : Addr} {od12 an12 : Option Addr} {sl12 : Array (Option Value)} {oc12 kV12 dc12 pm12 cd12 ct12 : Value} {f12 : Addr} {od13 an13 : Option Addr} {sl13 : Array (Option Value)} {oc13 kV13 dc13 pm13 cd13 ct13 : Value} {f13 : Addr} {od14 an14 : Option Addr} {sl14 : Array (Option Value)} {oc14 kV14 dc14 pm14 cd14 ct14 : Value} {f14 : Addr} {od15 an15 : Option Addr} {sl15 : Array (Option Value)} {oc15 kV15 dc15 pm15 cd15 ct15 : Value} {f15 : Addr} {od16 an16 : Option Addr} {sl16 : Array (Option Value)} {oc16 kV16 dc16 pm16 cd16 ct16 : Value} {f16 : Addr} {od17 an17 : Option Addr} {sl17 : Array (Option Value)} {oc17 kV17 dc17 pm17 cd17 ct17 : Value} {f17 : Addr} {od18 an18 : Option Addr} {sl18 : Array (Option Value)} {oc18 kV18 dc18 pm18 cd18 ct18 : Value} {f18 : Addr} {od19 an19 : Option Addr} {sl19 : Array (Option Value)} {oc19 kV19 dc19 pm19 cd19 ct19 : Value} {f19 : Addr} {od20 an20 : Option Addr} {sl20 : Array (Option Value)} {oc20 kV20 dc20 pm20 cd20 ct20 : Value} {f20 : Addr} {od21 an21 : Option Addr} {sl21 : Array (Option Value)} {oc21 kV21 dc21 pm21 cd21 ct21 : Value} {f21 : Addr} {od22 an22 : Option Addr} {sl22 : Array (Option Value)} {oc22 kV22 dc22 pm22 cd22 ct22 : Value} {f22 : Addr} {od23 an23 : Option Addr} {sl23 : Array (Option Value)} {oc23 kV23 dc23 pm23 cd23 ct23 : Value} {f23 : Addr} {od24 an24 : Option Addr} {sl24 : Array (Option Value)} {oc24 kV24 dc24 pm24 cd24 ct24 : Value} {f24 : Addr} {od25 an25 : Option Addr} {sl25 : Array (Option Value)} {oc25 kV25 dc25 pm25 cd25 ct25 : Value} {f25 : Addr} {od26 an26 : Option Addr} {sl26 : Array (Option Value)} {oc26 kV26 dc26 pm26 cd26 ct26 : Value} {f26 : Addr} {od27 an27 : Option Addr} {sl27 : Array (Option Value)} {oc27 kV27 dc27 pm27 cd27 ct27 : Value} {f27 : Addr}
    {g0 t0 : Addr} {uc0 : Value} {ud0 : Option Addr} {un0 : Nat} {us0 : Array (Option Value)} (u0 : K.lookup t0 = some ⟨uc0, ud0, .seq [Value.none].toArray un0, us0⟩)
    (gc0 : PySem.W.nsIn K mainGlobals "Form" = some (some (.ref g0))) (gp0 : PySem.W.plainGet K g0 Str.empty = true) (gd0 : PySem.W.hasDictIn K g0 = true) (go0 : PySem.W.plainOver K g0 = true) (gs0 : PySem.W.findIn K (.ref g0) "__setattr__" = some (some (.builtin "object.__setattr__"))) (gm0 : PySem.W.makesIn K g0 = true) (gk0 : PySem.W.keepIn K (.ref g0) = true)
    (ga0 : PySem.W.findIn K (.ref g0) "__class__" = some (some (.builtin "object.__class__"))) (gn0 : PySem.W.specialIn K (.builtin "object.__class__") "__get__" = some (some (.builtin "getset_descriptor.__get__"))) (gt0 : PySem.W.takesIn K (.builtin "object.__class__") = some true) (gr0 : PySem.W.mroIn K g0 (.type "object") = some true)
    (gy0 : PySem.W.findIn K (.ref g0) "__format__" = some (some (.builtin "object.__format__"))) (gz0 : PySem.W.findIn K (.ref g0) "__bool__" = some none)
    (gf0_0 : PySem.W.findIn K (.ref g0) "base" = some none)
    (gf0_1 : PySem.W.findIn K (.ref g0) "parts" = some none)
    (a0 : PySem.W.nsIn K mainGlobals "is_whole" = some (some (.ref f0))) (l0 : K.lookup f0 = some ⟨oc0, od0, .func (PySem.W.fnOf "is_whole" "is_whole" (defArgs s_is_whole) (defBody s_is_whole) (defScope s_is_whole) .none kV0 dc0 pm0 an0 cd0 ct0), sl0⟩) (c0 : PySem.W.codeIn K cd0 "is_whole" = true) (k0 : PySem.W.keepIn K (.ref f0) = true)
    (a1 : PySem.W.nsIn K mainGlobals "is_spelt" = some (some (.ref f1))) (l1 : K.lookup f1 = some ⟨oc1, od1, .func (PySem.W.fnOf "is_spelt" "is_spelt" (defArgs s_is_spelt) (defBody s_is_spelt) (defScope s_is_spelt) .none kV1 dc1 pm1 an1 cd1 ct1), sl1⟩) (c1 : PySem.W.codeIn K cd1 "is_spelt" = true) (k1 : PySem.W.keepIn K (.ref f1) = true)
    (a2 : PySem.W.nsIn K mainGlobals "is_unknown" = some (some (.ref f2))) (l2 : K.lookup f2 = some ⟨oc2, od2, .func (PySem.W.fnOf "is_unknown" "is_unknown" (defArgs s_is_unknown) (defBody s_is_unknown) (defScope s_is_unknown) .none kV2 dc2 pm2 an2 cd2 ct2), sl2⟩) (c2 : PySem.W.codeIn K cd2 "is_unknown" = true) (k2 : PySem.W.keepIn K (.ref f2) = true)
    (a3 : PySem.W.nsIn K mainGlobals "is_row" = some (some (.ref f3))) (l3 : K.lookup f3 = some ⟨oc3, od3, .func (PySem.W.fnOf "is_row" "is_row" (defArgs s_is_row) (defBody s_is_row) (defScope s_is_row) .none kV3 dc3 pm3 an3 cd3 ct3), sl3⟩) (c3 : PySem.W.codeIn K cd3 "is_row" = true) (k3 : PySem.W.keepIn K (.ref f3) = true)
    (a4 : PySem.W.nsIn K mainGlobals "is_square" = some (some (.ref f4))) (l4 : K.lookup f4 = some ⟨oc4, od4, .func (PySem.W.fnOf "is_square" "is_square" (defArgs s_is_square) (defBody s_is_square) (defScope s_is_square) .none kV4 dc4 pm4 an4 cd4 ct4), sl4⟩) (c4 : PySem.W.codeIn K cd4 "is_square" = true) (k4 : PySem.W.keepIn K (.ref f4) = true)
    (a5 : PySem.W.nsIn K mainGlobals "nought" = some (some (.ref f5))) (l5 : K.lookup f5 = some ⟨oc5, od5, .func (PySem.W.fnOf "nought" "nought" (defArgs s_nought) (defBody s_nought) (defScope s_nought) .none kV5 dc5 pm5 an5 cd5 ct5), sl5⟩) (c5 : PySem.W.codeIn K cd5 "nought" = true) (k5 : PySem.W.keepIn K (.ref f5) = true)
    (a6 : PySem.W.nsIn K mainGlobals "are_parts" = some (some (.ref f6))) (l6 : K.lookup f6 = some ⟨oc6, od6, .func (PySem.W.fnOf "are_parts" "are_parts" (defArgs s_are_parts) (defBody s_are_parts) (defScope s_are_parts) .none kV6 dc6 pm6 an6 cd6 ct6), sl6⟩) (c6 : PySem.W.codeIn K cd6 "are_parts" = true) (k6 : PySem.W.keepIn K (.ref f6) = true)
    (a7 : PySem.W.findIn K (.ref g0) "__init__" = some (some (.ref f7))) (i7 : PySem.W.isFn K (.ref f7) = true) (l7 : K.lookup f7 = some ⟨oc7, od7, .func (PySem.W.fnOf "__init__" "Form.__init__" (defArgs s_Form___init__) (defBody s_Form___init__) (defScope s_Form___init__) (.ref t0) kV7 dc7 pm7 an7 cd7 ct7), sl7⟩) (c7 : PySem.W.codeIn K cd7 "Form.__init__" = true) (k7 : PySem.W.keepIn K (.ref f7) = true)
    (a8 : PySem.W.findIn K (.ref g0) "__len__" = some (some (.ref f8))) (i8 : PySem.W.isFn K (.ref f8) = true) (l8 : K.lookup f8 = some ⟨oc8, od8, .func (PySem.W.fnOf "__len__" "Form.__len__" (defArgs s_Form___len__) (defBody s_Form___len__) (defScope s_Form___len__) .none kV8 dc8 pm8 an8 cd8 ct8), sl8⟩) (c8 : PySem.W.codeIn K cd8 "Form.__len__" = true) (k8 : PySem.W.keepIn K (.ref f8) = true)
    (a9 : PySem.W.findIn K (.ref g0) "__str__" = some (some (.ref f9))) (i9 : PySem.W.isFn K (.ref f9) = true) (l9 : K.lookup f9 = some ⟨oc9, od9, .func (PySem.W.fnOf "__str__" "Form.__str__" (defArgs s_Form___str__) (defBody s_Form___str__) (defScope s_Form___str__) .none kV9 dc9 pm9 an9 cd9 ct9), sl9⟩) (c9 : PySem.W.codeIn K cd9 "Form.__str__" = true) (k9 : PySem.W.keepIn K (.ref f9) = true)
    (a10 : PySem.W.findIn K (.ref g0) "__repr__" = some (some (.ref f10))) (i10 : PySem.W.isFn K (.ref f10) = true) (l10 : K.lookup f10 = some ⟨oc10, od10, .func (PySem.W.fnOf "__repr__" "Form.__repr__" (defArgs s_Form___repr__) (defBody s_Form___repr__) (defScope s_Form___repr__) .none kV10 dc10 pm10 an10 cd10 ct10), sl10⟩) (c10 : PySem.W.codeIn K cd10 "Form.__repr__" = true) (k10 : PySem.W.keepIn K (.ref f10) = true)
    (a11 : PySem.W.nsIn K mainGlobals "shown_numbers" = some (some (.ref f11))) (l11 : K.lookup f11 = some ⟨oc11, od11, .func (PySem.W.fnOf "shown_numbers" "shown_numbers" (defArgs s_shown_numbers) (defBody s_shown_numbers) (defScope s_shown_numbers) .none kV11 dc11 pm11 an11 cd11 ct11), sl11⟩) (c11 : PySem.W.codeIn K cd11 "shown_numbers" = true) (k11 : PySem.W.keepIn K (.ref f11) = true)
    (a12 : PySem.W.nsIn K mainGlobals "shown_row" = some (some (.ref f12))) (l12 : K.lookup f12 = some ⟨oc12, od12, .func (PySem.W.fnOf "shown_row" "shown_row" (defArgs s_shown_row) (defBody s_shown_row) (defScope s_shown_row) .none kV12 dc12 pm12 an12 cd12 ct12), sl12⟩) (c12 : PySem.W.codeIn K cd12 "shown_row" = true) (k12 : PySem.W.keepIn K (.ref f12) = true)
    (a13 : PySem.W.nsIn K mainGlobals "shown_square" = some (some (.ref f13))) (l13 : K.lookup f13 = some ⟨oc13, od13, .func (PySem.W.fnOf "shown_square" "shown_square" (defArgs s_shown_square) (defBody s_shown_square) (defScope s_shown_square) .none kV13 dc13 pm13 an13 cd13 ct13), sl13⟩) (c13 : PySem.W.codeIn K cd13 "shown_square" = true) (k13 : PySem.W.keepIn K (.ref f13) = true)
    (a14 : PySem.W.nsIn K mainGlobals "_law_deck" = some (some (.ref f14))) (l14 : K.lookup f14 = some ⟨oc14, od14, .func (PySem.W.fnOf "_law_deck" "_law_deck" (defArgs s_law_deck) (defBody s_law_deck) (defScope s_law_deck) .none kV14 dc14 pm14 an14 cd14 ct14), sl14⟩) (c14 : PySem.W.codeIn K cd14 "_law_deck" = true) (k14 : PySem.W.keepIn K (.ref f14) = true)
    (a15 : PySem.W.nsIn K mainGlobals "_law_draw" = some (some (.ref f15))) (l15 : K.lookup f15 = some ⟨oc15, od15, .func (PySem.W.fnOf "_law_draw" "_law_draw" (defArgs s_law_draw) (defBody s_law_draw) (defScope s_law_draw) .none kV15 dc15 pm15 an15 cd15 ct15), sl15⟩) (c15 : PySem.W.codeIn K cd15 "_law_draw" = true) (k15 : PySem.W.keepIn K (.ref f15) = true)
    (a16 : PySem.W.nsIn K mainGlobals "_law_number" = some (some (.ref f16))) (l16 : K.lookup f16 = some ⟨oc16, od16, .func (PySem.W.fnOf "_law_number" "_law_number" (defArgs s_law_number) (defBody s_law_number) (defScope s_law_number) .none kV16 dc16 pm16 an16 cd16 ct16), sl16⟩) (c16 : PySem.W.codeIn K cd16 "_law_number" = true) (k16 : PySem.W.keepIn K (.ref f16) = true)
    (a17 : PySem.W.nsIn K mainGlobals "_law_row" = some (some (.ref f17))) (l17 : K.lookup f17 = some ⟨oc17, od17, .func (PySem.W.fnOf "_law_row" "_law_row" (defArgs s_law_row) (defBody s_law_row) (defScope s_law_row) .none kV17 dc17 pm17 an17 cd17 ct17), sl17⟩) (c17 : PySem.W.codeIn K cd17 "_law_row" = true) (k17 : PySem.W.keepIn K (.ref f17) = true)
    (a18 : PySem.W.nsIn K mainGlobals "_law_square" = some (some (.ref f18))) (l18 : K.lookup f18 = some ⟨oc18, od18, .func (PySem.W.fnOf "_law_square" "_law_square" (defArgs s_law_square) (defBody s_law_square) (defScope s_law_square) .none kV18 dc18 pm18 an18 cd18 ct18), sl18⟩) (c18 : PySem.W.codeIn K cd18 "_law_square" = true) (k18 : PySem.W.keepIn K (.ref f18) = true)
    (a19 : PySem.W.nsIn K mainGlobals "_law_words" = some (some (.ref f19))) (l19 : K.lookup f19 = some ⟨oc19, od19, .func (PySem.W.fnOf "_law_words" "_law_words" (defArgs s_law_words) (defBody s_law_words) (defScope s_law_words) .none kV19 dc19 pm19 an19 cd19 ct19), sl19⟩) (c19 : PySem.W.codeIn K cd19 "_law_words" = true) (k19 : PySem.W.keepIn K (.ref f19) = true)
    (a20 : PySem.W.nsIn K mainGlobals "_law_unknowns" = some (some (.ref f20))) (l20 : K.lookup f20 = some ⟨oc20, od20, .func (PySem.W.fnOf "_law_unknowns" "_law_unknowns" (defArgs s_law_unknowns) (defBody s_law_unknowns) (defScope s_law_unknowns) .none kV20 dc20 pm20 an20 cd20 ct20), sl20⟩) (c20 : PySem.W.codeIn K cd20 "_law_unknowns" = true) (k20 : PySem.W.keepIn K (.ref f20) = true)
    (a21 : PySem.W.nsIn K mainGlobals "_law_line" = some (some (.ref f21))) (l21 : K.lookup f21 = some ⟨oc21, od21, .func (PySem.W.fnOf "_law_line" "_law_line" (defArgs s_law_line) (defBody s_law_line) (defScope s_law_line) .none kV21 dc21 pm21 an21 cd21 ct21), sl21⟩) (c21 : PySem.W.codeIn K cd21 "_law_line" = true) (k21 : PySem.W.keepIn K (.ref f21) = true)
    (a22 : PySem.W.nsIn K mainGlobals "_law_text" = some (some (.ref f22))) (l22 : K.lookup f22 = some ⟨oc22, od22, .func (PySem.W.fnOf "_law_text" "_law_text" (defArgs s_law_text) (defBody s_law_text) (defScope s_law_text) .none kV22 dc22 pm22 an22 cd22 ct22), sl22⟩) (c22 : PySem.W.codeIn K cd22 "_law_text" = true) (k22 : PySem.W.keepIn K (.ref f22) = true)
    (a23 : PySem.W.nsIn K mainGlobals "_law_tuple" = some (some (.ref f23))) (l23 : K.lookup f23 = some ⟨oc23, od23, .func (PySem.W.fnOf "_law_tuple" "_law_tuple" (defArgs s_law_tuple) (defBody s_law_tuple) (defScope s_law_tuple) .none kV23 dc23 pm23 an23 cd23 ct23), sl23⟩) (c23 : PySem.W.codeIn K cd23 "_law_tuple" = true) (k23 : PySem.W.keepIn K (.ref f23) = true)
    (a24 : PySem.W.nsIn K mainGlobals "_law_program" = some (some (.ref f24))) (l24 : K.lookup f24 = some ⟨oc24, od24, .func (PySem.W.fnOf "_law_program" "_law_program" (defArgs s_law_program) (defBody s_law_program) (defScope s_law_program) .none kV24 dc24 pm24 an24 cd24 ct24), sl24⟩) (c24 : PySem.W.codeIn K cd24 "_law_program" = true) (k24 : PySem.W.keepIn K (.ref f24) = true)
    (a25 : PySem.W.nsIn K mainGlobals "_law_good" = some (some (.ref f25))) (l25 : K.lookup f25 = some ⟨oc25, od25, .func (PySem.W.fnOf "_law_good" "_law_good" (defArgs s_law_good) (defBody s_law_good) (defScope s_law_good) .none kV25 dc25 pm25 an25 cd25 ct25), sl25⟩) (c25 : PySem.W.codeIn K cd25 "_law_good" = true) (k25 : PySem.W.keepIn K (.ref f25) = true)
    (a26 : PySem.W.nsIn K mainGlobals "_law_right" = some (some (.ref f26))) (l26 : K.lookup f26 = some ⟨oc26, od26, .func (PySem.W.fnOf "_law_right" "_law_right" (defArgs s_law_right) (defBody s_law_right) (defScope s_law_right) .none kV26 dc26 pm26 an26 cd26 ct26), sl26⟩) (c26 : PySem.W.codeIn K cd26 "_law_right" = true) (k26 : PySem.W.keepIn K (.ref f26) = true)
    (a27 : PySem.W.nsIn K mainGlobals "law" = some (some (.ref f27))) (l27 : K.lookup f27 = some ⟨oc27, od27, .func (PySem.W.fnOf "law" "law" (defArgs s_law) (defBody s_law) (defScope s_law) .none kV27 dc27 pm27 an27 cd27 ct27), sl27⟩) (c27 : PySem.W.codeIn K cd27 "law" = true) (k27 : PySem.W.keepIn K (.ref f27) = true)
    {t_GREAT : Tok} (y_GREAT : PySem.W.nsIn K mainGlobals "GREAT" = some (some (.str "ABCDEFGHIJKLMNOPQRSTUVWXYZ" t_GREAT)))
    {t_LONGEST : Tok} (y_LONGEST : PySem.W.nsIn K mainGlobals "LONGEST" = some (some (.int 6 t_LONGEST)))
    {t_SMALL : Tok} (y_SMALL : PySem.W.nsIn K mainGlobals "SMALL" = some (some (.str "abcdefghijklmnopqrstuvwxyz" t_SMALL)))
    {t_WIDEST : Tok} (y_WIDEST : PySem.W.nsIn K mainGlobals "WIDEST" = some (some (.int 3 t_WIDEST)))
    (z_all : PySem.W.nsIn K mainGlobals "all" = some none)
    (z_bool : PySem.W.nsIn K mainGlobals "bool" = some none)
    (z_int : PySem.W.nsIn K mainGlobals "int" = some none)
    (z_isinstance : PySem.W.nsIn K mainGlobals "isinstance" = some none)
    (z_len : PySem.W.nsIn K mainGlobals "len" = some none)
    (z_max : PySem.W.nsIn K mainGlobals "max" = some none)
    (z_min : PySem.W.nsIn K mainGlobals "min" = some none)
    (z_range : PySem.W.nsIn K mainGlobals "range" = some none)
    (z_repr : PySem.W.nsIn K mainGlobals "repr" = some none)
    (z_sorted : PySem.W.nsIn K mainGlobals "sorted" = some none)
    (z_str : PySem.W.nsIn K mainGlobals "str" = some none)
    (z_sum : PySem.W.nsIn K mainGlobals "sum" = some none)
    (z_tuple : PySem.W.nsIn K mainGlobals "tuple" = some none)
    (z_zip : PySem.W.nsIn K mainGlobals "zip" = some none)
    : ∃ fd : FuncData, (∀ (s : Shared) (v : Value), BindsTo s fd ⟨[v], []⟩ [("_law_script", v)]) ∧ ∀ base : Heap, K.In base → base.Ns mainGlobals mg → FnG l.prog w K mg base 60 fa fd ["_law_script"] (spOf K 1 lawS) := by
  have e := hfa.symm.trans (PySem.W.mg_of X G a27)
  cases e
  have T : Txt mg := ⟨PySem.W.mg_none_of X G z_all, PySem.W.mg_none_of X G z_bool, PySem.W.mg_none_of X G z_int, PySem.W.mg_none_of X G z_isinstance, PySem.W.mg_none_of X G z_len, PySem.W.mg_none_of X G z_max, PySem.W.mg_none_of X G z_min, PySem.W.mg_none_of X G z_range, PySem.W.mg_none_of X G z_repr, PySem.W.mg_none_of X G z_sorted, PySem.W.mg_none_of X G z_str, PySem.W.mg_none_of X G z_sum, PySem.W.mg_none_of X G z_tuple, PySem.W.mg_none_of X G z_zip, ⟨_, PySem.W.mg_of X G y_GREAT, ⟨_, rfl⟩⟩, ⟨_, PySem.W.mg_of X G y_LONGEST, ⟨_, rfl⟩⟩, ⟨_, PySem.W.mg_of X G y_SMALL, ⟨_, rfl⟩⟩, ⟨_, PySem.W.mg_of X G y_WIDEST, ⟨_, rfl⟩⟩⟩
  have F7 : FunD K "__init__" "Form.__init__" (defArgs s_Form___init__) (defBody s_Form___init__) (defScope s_Form___init__) [V.non] [] f7 _ := ⟨⟨_, _, _, _, _, _, _, _, _, _, rfl, l7, c7, .inr ⟨by simp, t0, _, [Value.none], _, rfl, u0, rfl, .cons rfl .nil⟩, .inl rfl⟩, k7⟩
  have I7 := init_Form F7
  have D : Defs K mg (fun j => match j with | 0 => g0 | _ => f0) := ⟨⟨⟨_, _, fun_mk (st := s_is_whole) l0 c0 k0, PySem.W.mg_of X G a0, k0, (fun_mk (st := s_is_whole) l0 c0 k0).binds (ps := ["thing"]) fun _ _ _ _ _ _ us hl => match us, hl with | [_], _ => rfl⟩⟩,
    ⟨⟨_, _, fun_mk (st := s_is_spelt) l1 c1 k1, PySem.W.mg_of X G a1, k1, (fun_mk (st := s_is_spelt) l1 c1 k1).binds (ps := ["thing", "ahead"]) fun _ _ _ _ _ _ us hl => match us, hl with | [_, _], _ => rfl⟩⟩,
    ⟨⟨_, _, fun_mk (st := s_is_unknown) l2 c2 k2, PySem.W.mg_of X G a2, k2, (fun_mk (st := s_is_unknown) l2 c2 k2).binds (ps := ["thing"]) fun _ _ _ _ _ _ us hl => match us, hl with | [_], _ => rfl⟩⟩,
    ⟨⟨_, _, fun_mk (st := s_is_row) l3 c3 k3, PySem.W.mg_of X G a3, k3, (fun_mk (st := s_is_row) l3 c3 k3).binds (ps := ["thing"]) fun _ _ _ _ _ _ us hl => match us, hl with | [_], _ => rfl⟩⟩,
    ⟨⟨_, _, fun_mk (st := s_is_square) l4 c4 k4, PySem.W.mg_of X G a4, k4, (fun_mk (st := s_is_square) l4 c4 k4).binds (ps := ["thing"]) fun _ _ _ _ _ _ us hl => match us, hl with | [_], _ => rfl⟩⟩,
    ⟨⟨_, _, fun_mk (st := s_nought) l5 c5 k5, PySem.W.mg_of X G a5, k5, (fun_mk (st := s_nought) l5 c5 k5).binds (ps := ["width"]) fun _ _ _ _ _ _ us hl => match us, hl with | [_], _ => rfl⟩⟩,
    ⟨⟨_, _, fun_mk (st := s_are_parts) l6 c6 k6, PySem.W.mg_of X G a6, k6, (fun_mk (st := s_are_parts) l6 c6 k6).binds (ps := ["thing", "width"]) fun _ _ _ _ _ _ us hl => match us, hl with | [_, _], _ => rfl⟩⟩,
    ⟨⟨_, _, F7, ⟨gm0, a7, i7, gk0⟩, PySem.W.mg_of X G gc0, I7.1, I7.2.1, I7.2.2⟩⟩,
    ⟨⟨_, _, fun_mk (st := s_Form___len__) l8 c8 k8, ⟨a8, i8, k8⟩, (fun_mk (st := s_Form___len__) l8 c8 k8).binds (ps := ["self"]) fun _ _ _ _ _ _ us hl => match us, hl with | [_], _ => rfl⟩⟩,
    ⟨⟨_, _, fun_mk (st := s_Form___str__) l9 c9 k9, ⟨a9, i9, k9⟩, (fun_mk (st := s_Form___str__) l9 c9 k9).binds (ps := ["self"]) fun _ _ _ _ _ _ us hl => match us, hl with | [_], _ => rfl⟩⟩,
    ⟨⟨_, _, fun_mk (st := s_Form___repr__) l10 c10 k10, ⟨a10, i10, k10⟩, (fun_mk (st := s_Form___repr__) l10 c10 k10).binds (ps := ["self"]) fun _ _ _ _ _ _ us hl => match us, hl with | [_], _ => rfl⟩⟩,
    ⟨⟨_, _, fun_mk (st := s_shown_numbers) l11 c11 k11, PySem.W.mg_of X G a11, k11, (fun_mk (st := s_shown_numbers) l11 c11 k11).binds (ps := ["row"]) fun _ _ _ _ _ _ us hl => match us, hl with | [_], _ => rfl⟩⟩,
    ⟨⟨_, _, fun_mk (st := s_shown_row) l12 c12 k12, PySem.W.mg_of X G a12, k12, (fun_mk (st := s_shown_row) l12 c12 k12).binds (ps := ["row"]) fun _ _ _ _ _ _ us hl => match us, hl with | [_], _ => rfl⟩⟩,
    ⟨⟨_, _, fun_mk (st := s_shown_square) l13 c13 k13, PySem.W.mg_of X G a13, k13, (fun_mk (st := s_shown_square) l13 c13 k13).binds (ps := ["square"]) fun _ _ _ _ _ _ us hl => match us, hl with | [_], _ => rfl⟩⟩,
    ⟨⟨_, _, fun_mk (st := s_law_deck) l14 c14 k14, PySem.W.mg_of X G a14, k14, (fun_mk (st := s_law_deck) l14 c14 k14).binds (ps := ["_law_script", "_law_k"]) fun _ _ _ _ _ _ us hl => match us, hl with | [_, _], _ => rfl⟩⟩,
    ⟨⟨_, _, fun_mk (st := s_law_draw) l15 c15 k15, PySem.W.mg_of X G a15, k15, (fun_mk (st := s_law_draw) l15 c15 k15).binds (ps := ["_law_deck_here", "_law_many"]) fun _ _ _ _ _ _ us hl => match us, hl with | [_, _], _ => rfl⟩⟩,
    ⟨⟨_, _, fun_mk (st := s_law_number) l16 c16 k16, PySem.W.mg_of X G a16, k16, (fun_mk (st := s_law_number) l16 c16 k16).binds (ps := ["_law_deck_here"]) fun _ _ _ _ _ _ us hl => match us, hl with | [_], _ => rfl⟩⟩,
    ⟨⟨_, _, fun_mk (st := s_law_row) l17 c17 k17, PySem.W.mg_of X G a17, k17, (fun_mk (st := s_law_row) l17 c17 k17).binds (ps := ["_law_deck_here", "_law_size"]) fun _ _ _ _ _ _ us hl => match us, hl with | [_, _], _ => rfl⟩⟩,
    ⟨⟨_, _, fun_mk (st := s_law_square) l18 c18 k18, PySem.W.mg_of X G a18, k18, (fun_mk (st := s_law_square) l18 c18 k18).binds (ps := ["_law_deck_here", "_law_size"]) fun _ _ _ _ _ _ us hl => match us, hl with | [_, _], _ => rfl⟩⟩,
    ⟨⟨_, _, fun_mk (st := s_law_words) l19 c19 k19, PySem.W.mg_of X G a19, k19, (fun_mk (st := s_law_words) l19 c19 k19).binds (ps := ["_law_deck_here", "_law_many"]) fun _ _ _ _ _ _ us hl => match us, hl with | [_, _], _ => rfl⟩⟩,
    ⟨⟨_, _, fun_mk (st := s_law_unknowns) l20 c20 k20, PySem.W.mg_of X G a20, k20, (fun_mk (st := s_law_unknowns) l20 c20 k20).binds (ps := ["_law_deck_here", "_law_many"]) fun _ _ _ _ _ _ us hl => match us, hl with | [_, _], _ => rfl⟩⟩,
    ⟨⟨_, _, fun_mk (st := s_law_line) l21 c21 k21, PySem.W.mg_of X G a21, k21, (fun_mk (st := s_law_line) l21 c21 k21).binds (ps := ["_law_row_here"]) fun _ _ _ _ _ _ us hl => match us, hl with | [_], _ => rfl⟩⟩,
    ⟨⟨_, _, fun_mk (st := s_law_text) l22 c22 k22, PySem.W.mg_of X G a22, k22, (fun_mk (st := s_law_text) l22 c22 k22).binds (ps := ["_law_row_here", "_law_some"]) fun _ _ _ _ _ _ us hl => match us, hl with | [_, _], _ => rfl⟩⟩,
    ⟨⟨_, _, fun_mk (st := s_law_tuple) l23 c23 k23, PySem.W.mg_of X G a23, k23, (fun_mk (st := s_law_tuple) l23 c23 k23).binds (ps := ["_law_words_here"]) fun _ _ _ _ _ _ us hl => match us, hl with | [_], _ => rfl⟩⟩,
    ⟨⟨_, _, fun_mk (st := s_law_program) l24 c24 k24, PySem.W.mg_of X G a24, k24, (fun_mk (st := s_law_program) l24 c24 k24).binds (ps := ["_law_row_here", "_law_some"]) fun _ _ _ _ _ _ us hl => match us, hl with | [_, _], _ => rfl⟩⟩,
    ⟨⟨_, _, fun_mk (st := s_law_good) l25 c25 k25, PySem.W.mg_of X G a25, k25, (fun_mk (st := s_law_good) l25 c25 k25).binds (ps := ["_law_deck_here"]) fun _ _ _ _ _ _ us hl => match us, hl with | [_], _ => rfl⟩⟩,
    ⟨⟨_, _, fun_mk (st := s_law_right) l26 c26 k26, PySem.W.mg_of X G a26, k26, (fun_mk (st := s_law_right) l26 c26 k26).binds (ps := ["_law_form", "_law_row_here", "_law_some"]) fun _ _ _ _ _ _ us hl => match us, hl with | [_, _, _], _ => rfl⟩⟩⟩
  have CT : CTs K mg (fun j => match j with | 0 => g0 | _ => f0) := ⟨⟨gp0, gd0, go0, gs0⟩, PySem.W.mg_of X G gc0, ⟨⟨gp0, gd0, go0, gs0⟩, ga0, gn0, gt0, gr0, kit_self⟩, ⟨gy0, gr0, gz0⟩, ⟨let ⟨f, fd, F, M, B⟩ := D.d_Form___repr__.ex; ⟨_, _, f, fd, F, M, B, ⟨sc_Form___repr__, rfl, by decide +kernel, ⟨_, _, _, _, _, _, _, _, _, _, _, _, _, _, rfl, fun _ => rfl, fun _ => rfl⟩⟩⟩, ⟨gp0, gd0, go0, gs0⟩, gf0_0, gf0_1⟩, gf0_0, gf0_1⟩
  exact ⟨PySem.W.fnOf "law" "law" (defArgs s_law) (defBody s_law) (defScope s_law) .none kV27 dc27 pm27 an27 cd27 ct27, fun s v => .of_eq rfl, fun base _ _ => main T CT D (fun_mk (st := s_law) l27 c27 k27) law_true⟩
end K20
open PySem PySem.W PyProof.Rows in
set_option maxRecDepth 100000 in
set_option maxHeartbeats 0 in
theorem PySem.Challenge.cw_endpapers_k20_forms_shown_holds : PySem.Challenge.rw_endpapers_k20_forms_shown.Holds := by
  w_on; o_law; k_head; (case hw => w_witness2)
  k_fill
  refine Pv.walk_ofG (l := PySem.Challenge.rw_endpapers_k20_forms_shown) (k := 60) (x := "_law_script") rfl rfl ⟨rfl, by decide, by decide⟩ (fun w h Y => PySem.W.kIn_of Y) ?F
  case F =>
    intro w mg fa h KX G hmg
    refine' K20.all_mk KX G hmg ?u0 ?gc0 ?gp0 ?gd0 ?go0 ?gs0 ?gm0 ?gk0 ?ga0 ?gn0 ?gt0 ?gr0 ?gy0 ?gz0 ?gf0_0 ?gf0_1 ?a0 ?l0 ?c0 ?k0 ?a1 ?l1 ?c1 ?k1 ?a2 ?l2 ?c2 ?k2 ?a3 ?l3 ?c3 ?k3 ?a4 ?l4 ?c4 ?k4 ?a5 ?l5 ?c5 ?k5 ?a6 ?l6 ?c6 ?k6 ?a7 ?i7 ?l7 ?c7 ?k7 ?a8 ?i8 ?l8 ?c8 ?k8 ?a9 ?i9 ?l9 ?c9 ?k9 ?a10 ?i10 ?l10 ?c10 ?k10 ?a11 ?l11 ?c11 ?k11 ?a12 ?l12 ?c12 ?k12 ?a13 ?l13 ?c13 ?k13 ?a14 ?l14 ?c14 ?k14 ?a15 ?l15 ?c15 ?k15 ?a16 ?l16 ?c16 ?k16 ?a17 ?l17 ?c17 ?k17 ?a18 ?l18 ?c18 ?k18 ?a19 ?l19 ?c19 ?k19 ?a20 ?l20 ?c20 ?k20 ?a21 ?l21 ?c21 ?k21 ?a22 ?l22 ?c22 ?k22 ?a23 ?l23 ?c23 ?k23 ?a24 ?l24 ?c24 ?k24 ?a25 ?l25 ?c25 ?k25 ?a26 ?l26 ?c26 ?k26 ?a27 ?l27 ?c27 ?k27 ?y_GREAT ?y_LONGEST ?y_SMALL ?y_WIDEST ?z_all ?z_bool ?z_int ?z_isinstance ?z_len ?z_max ?z_min ?z_range ?z_repr ?z_sorted ?z_str ?z_sum ?z_tuple ?z_zip
    (case gc0 => k_is)
    (case gp0 => k_is)
    (case gd0 => k_is)
    (case go0 => k_is)
    (case gs0 => k_is)
    (case gm0 => k_is)
    (case gk0 => k_is)
    (case ga0 => k_is)
    (case gn0 => k_is)
    (case gt0 => k_is)
    (case gr0 => k_is)
    (case gy0 => k_is)
    (case gz0 => k_is)
    (case gf0_0 => k_is)
    (case gf0_1 => k_is)
    (case a0 => k_is)
    (case l0 => k_is)
    (case c0 => k_is)
    (case k0 => k_is)
    (case a1 => k_is)
    (case l1 => k_is)
    (case c1 => k_is)
    (case k1 => k_is)
    (case a2 => k_is)
    (case l2 => k_is)
    (case c2 => k_is)
    (case k2 => k_is)
    (case a3 => k_is)
    (case l3 => k_is)
    (case c3 => k_is)
    (case k3 => k_is)
    (case a4 => k_is)
    (case l4 => k_is)
    (case c4 => k_is)
    (case k4 => k_is)
    (case a5 => k_is)
    (case l5 => k_is)
    (case c5 => k_is)
    (case k5 => k_is)
    (case a6 => k_is)
    (case l6 => k_is)
    (case c6 => k_is)
    (case k6 => k_is)
    (case a7 => k_is)
    (case i7 => k_is)
    (case l7 => k_is)
    (case c7 => k_is)
    (case k7 => k_is)
    (case a8 => k_is)
    (case i8 => k_is)
    (case l8 => k_is)
    (case c8 => k_is)
    (case k8 => k_is)
    (case a9 => k_is)
    (case i9 => k_is)
    (case l9 => k_is)
    (case c9 => k_is)
    (case k9 => k_is)
    (case a10 => k_is)
    (case i10 => k_is)
    (case l10 => k_is)
    (case c10 => k_is)
    (case k10 => k_is)
    (case a11 => k_is)
    (case l11 => k_is)
    (case c11 => k_is)
    (case k11 => k_is)
    (case a12 => k_is)
    (case l12 => k_is)
    (case c12 => k_is)
    (case k12 => k_is)
    (case a13 => k_is)
    (case l13 => k_is)
    (case c13 => k_is)
    (case k13 => k_is)
    (case a14 => k_is)
    (case l14 => k_is)
    (case c14 => k_is)
    (case k14 => k_is)
    (case a15 => k_is)
    (case l15 => k_is)
    (case c15 => k_is)
    (case k15 => k_is)
    (case a16 => k_is)
    (case l16 => k_is)
    (case c16 => k_is)
    (case k16 => k_is)
    (case a17 => k_is)
    (case l17 => k_is)
    (case c17 => k_is)
    (case k17 => k_is)
    (case a18 => k_is)
    (case l18 => k_is)
    (case c18 => k_is)
    (case k18 => k_is)
    (case a19 => k_is)
    (case l19 => k_is)
    (case c19 => k_is)
    (case k19 => k_is)
    (case a20 => k_is)
    (case l20 => k_is)
    (case c20 => k_is)
    (case k20 => k_is)
    (case a21 => k_is)
    (case l21 => k_is)
    (case c21 => k_is)
    (case k21 => k_is)
    (case a22 => k_is)
    (case l22 => k_is)
    (case c22 => k_is)
    (case k22 => k_is)
    (case a23 => k_is)
    (case l23 => k_is)
    (case c23 => k_is)
    (case k23 => k_is)
    (case a24 => k_is)
    (case l24 => k_is)
    (case c24 => k_is)
    (case k24 => k_is)
    (case a25 => k_is)
    (case l25 => k_is)
    (case c25 => k_is)
    (case k25 => k_is)
    (case a26 => k_is)
    (case l26 => k_is)
    (case c26 => k_is)
    (case k26 => k_is)
    (case a27 => k_is)
    (case l27 => k_is)
    (case c27 => k_is)
    (case k27 => k_is)
    (case y_GREAT => k_is)
    (case y_LONGEST => k_is)
    (case y_SMALL => k_is)
    (case y_WIDEST => k_is)
    (case z_all => k_is)
    (case z_bool => k_is)
    (case z_int => k_is)
    (case z_isinstance => k_is)
    (case z_len => k_is)
    (case z_max => k_is)
    (case z_min => k_is)
    (case z_range => k_is)
    (case z_repr => k_is)
    (case z_sorted => k_is)
    (case z_str => k_is)
    (case z_sum => k_is)
    (case z_tuple => k_is)
    (case z_zip => k_is)
    (case u0 => k_is)
