import PyProof.Rows.All
import Wide.All
import OpenK.AllK
import Wide.FinOn
import HandS.Base
import HandS.Call
import HandS.List
import HandS.Comp
import HandS.Dict
import HandS.Iter
import HandS.Exc
import HandS.TryOnly
import HandS.Wide
import HandS.Words
import HandS.TupAny
import HandS.Style
import HandS.SortRule
import HandS.SortInts
import HandS.IsInst
import KE.KUnpack
import HandS.Defaults
import HandS.CallSlots
import HandS.Star
import HandS.Property
import KE.KDictPairs
import HandS.Small
import KE.KStateDown
import KE.KSuper
import HandS.Head0
import HandS.Head1
import HandS.Head2
import HandS.HeadEnd
import HandS.HeadHook1
import HandS.HeadHook2
import PyProof.Rows.MatchSeqLen
import HandS.ClsMeth
import HandS.OwnEq
import KE.GoesNew
import HandS.Set
import HandS.Strs
import HandS.SetFor
import HandS.Remove
import HandS.TupMul
import PyProof.NeKinds
import KE.KExcSuper
import KE.KExcInit
import HandS.ExcField
import HandS.TryMany
import HandS.WordsExc
import HandS.Ends
import PyProof.ReprRoads
import PyProof.Rows.NestShow
import PyProof.ListCopy
import HandS.Deep
import PySem.Challenge.RW_heapeffects_k19_errors_of_effects
import PyProof.FitsInt
set_option Elab.async false
set_option linter.all false
set_option maxRecDepth 100000
set_option maxHeartbeats 0
namespace DL
open PySem L2

/-- data: tuples and lists by value; ref: an object of the store; glo: what the module's name stands for; inst: an instance that no one changes; dcv: a dict that no one changes -/
inductive D where
  | non | bl (b : Bool) | int (i : Int) | str (x : Str)
  | tup (xs : List D) | itm (xs : List D) | lst (xs : List D) | fzl (xs : List D)
  | ref (l : Nat) | glo (x : Str) | ty (n : String)
  | inst (c : Str) (fs : List (Str × D))
  | dcv (kvs : List (Key × D))

/-- an object of the store -/
inductive Ob where
  | lst (xs : List D)
  | dic (kvs : List (Key × D))
  | ins (c : Str) (fs : List (Str × D))

abbrev Mem := List Ob
abbrev Env := List (Option D)

/-- the written part; the addresses that are hidden (a caller's own store) -/
structure Kx where
  K : PySem.W.Frag
  φ : List Addr

/-- the address of a module's name -/
def gadr (K : PySem.W.Frag) (x : Str) : Addr := match PySem.W.nsIn K mainGlobals x with
  | some (some (.ref a)) => a
  | _ => 0

def KL (K : PySem.W.Frag) (a : Addr) (xs : List V) : Prop :=
  ∃ (o : Obj) (its : Array Value) (n : Nat),
    K.lookup a = some o ∧ o.cls = .type "list" ∧ o.dict = none ∧ o.data = .seq its n ∧ its.size ≤ sizeLine ∧ Vals xs its.toList
def KT (K : PySem.W.Frag) (a : Addr) (xs : List V) : Prop :=
  ∃ (o : Obj) (its : Array Value) (n : Nat), K.lookup a = some o ∧ o.cls = .type "tuple" ∧ o.dict = none ∧ o.data = .seq its n ∧ its.size ≤ sizeLine ∧ Vals xs its.toList
/-- a list, a tuple that is not in the store -/
def SqLf (K : Kx) (ρ : List Addr) (H : Hp) (a : Addr) (xs : List V) : Prop := (Rd H a (.lst xs) ∧ a ∉ ρ ∧ a ∉ K.φ) ∨ KL K.K a xs
/-- a tuple, known to the letter: it has no dict of its own -/
def FzT (H : Hp) (a : Addr) (xs : List V) : Prop := ∃ o, H a = some (.frz o (.tup xs)) ∧ o.dict = none
def SqTf (K : Kx) (ρ : List Addr) (H : Hp) (a : Addr) (xs : List V) : Prop := (FzT H a xs ∧ a ∉ ρ ∧ a ∉ K.φ) ∨ KT K.K a xs
theorem SqLf.sq {K : Kx} {ρ : List Addr} {H : Hp} {a : Addr} {xs : List V} (h : SqLf K ρ H a xs) : SqL K.K H a xs := h.elim (fun z => .inl z.1) .inr
theorem FzT.rd {H : Hp} {a : Addr} {xs : List V} (h : FzT H a xs) : Rd H a (.tup xs) := h.elim fun o z => .inr ⟨o, z.1⟩
theorem KT.sq {K : PySem.W.Frag} {H : Hp} {a : Addr} {xs : List V} (h : KT K a xs) : SqT K H a xs := by
  obtain ⟨o, its, n, h1, h2, _, h3⟩ := h
  exact .inr ⟨o, its, n, h1, h2, h3⟩
theorem SqTf.sq {K : Kx} {ρ : List Addr} {H : Hp} {a : Addr} {xs : List V} (h : SqTf K ρ H a xs) : SqT K.K H a xs := h.elim (fun z => .inl z.1.rd) KT.sq
mutual
inductive RD (K : Kx) (ρ : List Addr) (H : Hp) : D → V → Prop
  | non : RD K ρ H .non .non
  | bl (b : Bool) : RD K ρ H (.bl b) (.bl b)
  | int (i : Int) : RD K ρ H (.int i) (.int i)
  | str (x : Str) : RD K ρ H (.str x) (.str x)
  | tup {ds a xs} (h : SqTf K ρ H a xs) (r : RDs K ρ H ds xs) : RD K ρ H (.tup ds) (.ref a)
  | itm {ds a xs} (h : H a = some (.tup xs)) (n : a ∉ ρ ∧ a ∉ K.φ) (r : RDs K ρ H ds xs) : RD K ρ H (.itm ds) (.ref a)
  | lst {ds a xs} (h : H a = some (.lst xs)) (n : a ∉ ρ ∧ a ∉ K.φ) (r : RDs K ρ H ds xs) : RD K ρ H (.lst ds) (.ref a)
  | fzl {ds a xs} (h : SqLf K ρ H a xs) (r : RDs K ρ H ds xs) : RD K ρ H (.fzl ds) (.ref a)
  | ref {l a} (h : ρ[l]? = some a) : RD K ρ H (.ref l) (.ref a)
  | glo {x} : RD K ρ H (.glo x) (.ref (gadr K.K x))
  | ty (n : String) : RD K ρ H (.ty n) (.ty n)
  | inst {c fs a dx gs} (h : H a = some (.ins (gadr K.K c) dx gs)) (n : a ∉ ρ ∧ a ∉ K.φ) (r : RFs K ρ H fs gs) : RD K ρ H (.inst c fs) (.ref a)
  | dcv {kvs a ks} (h : H a = some (.dK ks)) (n : a ∉ ρ ∧ a ∉ K.φ) (r : RKv K ρ H kvs ks) : RD K ρ H (.dcv kvs) (.ref a)
inductive RDs (K : Kx) (ρ : List Addr) (H : Hp) : List D → List V → Prop
  | nil : RDs K ρ H [] []
  | cons {d ds v vs} (h : RD K ρ H d v) (t : RDs K ρ H ds vs) : RDs K ρ H (d :: ds) (v :: vs)
inductive RFs (K : Kx) (ρ : List Addr) (H : Hp) : List (Str × D) → List (Str × V) → Prop
  | nil : RFs K ρ H [] []
  | cons {f d fs v vs} (h : RD K ρ H d v) (t : RFs K ρ H fs vs) : RFs K ρ H ((f, d) :: fs) ((f, v) :: vs)
inductive RKv (K : Kx) (ρ : List Addr) (H : Hp) : List (Key × D) → List (Key × V) → Prop
  | nil : RKv K ρ H [] []
  | cons {f d fs v vs} (h : RD K ρ H d v) (t : RKv K ρ H fs vs) : RKv K ρ H ((f, d) :: fs) ((f, v) :: vs)
end
/-- dict entries -/
def RKs (K : Kx) (ρ : List Addr) (H : Hp) (ds : List (Key × D)) (vs : List (Key × V)) : Prop := Paired (fun p q => p.1 = q.1 ∧ RD K ρ H p.2 q.2) ds vs
def RO (K : Kx) (ρ : List Addr) (H : Hp) : Ob → HO → Prop
  | .lst ds, u => ∃ xs, u = .lst xs ∧ RDs K ρ H ds xs
  | .dic kvs, u => ∃ ks, u = .dK ks ∧ RKs K ρ H kvs ks
  | .ins c fs, u => ∃ dx gs, u = .ins (gadr K.K c) dx gs ∧ RFs K ρ H fs gs
/-- what may change -/
def Own : HO → Prop
  | .tup _ => False
  | .frz _ _ => False
  | _ => True
structure MOk (K : Kx) (ρ : List Addr) (M : Mem) (H : Hp) : Prop where
  nd : ρ.Nodup
  len : ρ.length = M.length
  hid : ∀ a ∈ K.φ, ∃ u, H a = some u ∧ Own u
  at_ : ∀ (l : Nat) (o : Ob) (a : Addr), M[l]? = some o → ρ[l]? = some a → ∃ u, H a = some u ∧ RO K ρ H o u
/-- what is not of the store stays; what is new in the store is new -/
structure Ext (ρ : List Addr) (H : Hp) (ρ' : List Addr) (H' : Hp) : Prop where
  pre : ∃ t, ρ' = ρ ++ t ∧ ∀ a ∈ t, H a = none
  keep : ∀ a o, H a = some o → a ∉ ρ → H' a = some o
  live : ∀ a, H' a = none → H a = none

section
variable {K : Kx} {ρ ρ' ρ1 ρ2 : List Addr} {H H' H1 H2 : Hp} {M M' : Mem}
theorem Ext.refl : Ext ρ H ρ H := ⟨⟨[], by simp, by simp⟩, fun _ _ h _ => h, fun _ h => h⟩
theorem Ext.nin {a : Addr} {o : HO} (e : Ext ρ H ρ' H') (h : H a = some o) (n : a ∉ ρ) : a ∉ ρ' := by
  obtain ⟨t, rfl, ht⟩ := e.pre
  intro z
  rcases List.mem_append.mp z with z | z
  · exact n z
  · rw [ht a z] at h; cases h
theorem Ext.trans (a : Ext ρ H ρ1 H1) (b : Ext ρ1 H1 ρ2 H2) : Ext ρ H ρ2 H2 := by
  obtain ⟨t, rfl, ht⟩ := a.pre
  obtain ⟨t2, rfl, ht2⟩ := b.pre
  refine ⟨⟨t ++ t2, by simp, fun x hx => ?_⟩, fun x o h n => b.keep x o (a.keep x o h n) (a.nin h n), fun x h => a.live x (b.live x h)⟩
  rcases List.mem_append.mp hx with z | z
  · exact ht x z
  · exact a.live x (ht2 x z)
theorem Rd.ext {K : Kx} {a : Addr} {u : HO} (e : Ext ρ H ρ' H') (h : Rd H a u) (n : a ∉ ρ ∧ a ∉ K.φ) : Rd H' a u ∧ a ∉ ρ' ∧ a ∉ K.φ := by
  rcases h with h | ⟨o, h⟩
  · exact ⟨.inl (e.keep a _ h n.1), e.nin h n.1, n.2⟩
  · exact ⟨.inr ⟨o, e.keep a _ h n.1⟩, e.nin h n.1, n.2⟩
theorem FzT.ext {K : Kx} {a : Addr} {xs : List V} (e : Ext ρ H ρ' H') (h : FzT H a xs) (n : a ∉ ρ ∧ a ∉ K.φ) : FzT H' a xs ∧ a ∉ ρ' ∧ a ∉ K.φ := by
  obtain ⟨o, h, d⟩ := h
  exact ⟨⟨o, e.keep a _ h n.1, d⟩, e.nin h n.1, n.2⟩
theorem SqTf.ext {a : Addr} {xs : List V} (e : Ext ρ H ρ' H') (h : SqTf K ρ H a xs) : SqTf K ρ' H' a xs := h.elim (fun z => .inl (FzT.ext (K := K) e z.1 z.2)) .inr
theorem SqLf.ext {a : Addr} {xs : List V} (e : Ext ρ H ρ' H') (h : SqLf K ρ H a xs) : SqLf K ρ' H' a xs := h.elim (fun z => .inl (Rd.ext (K := K) e z.1 z.2)) .inr
theorem get_pre {l : Nat} {a : Addr} (e : Ext ρ H ρ' H') (h : ρ[l]? = some a) : ρ'[l]? = some a := by
  obtain ⟨t, rfl, _⟩ := e.pre
  obtain ⟨hl, _⟩ := List.getElem?_eq_some_iff.mp h
  rw [List.getElem?_append_left hl]; exact h
mutual
theorem RD.ext (e : Ext ρ H ρ' H') : ∀ {d v}, RD K ρ H d v → RD K ρ' H' d v
  | _, _, .non => .non
  | _, _, .bl b => .bl b
  | _, _, .int i => .int i
  | _, _, .str x => .str x
  | _, _, .tup h r => .tup (h.ext e) (RDs.ext e r)
  | _, _, .itm h n r => .itm (e.keep _ _ h n.1) ⟨e.nin h n.1, n.2⟩ (RDs.ext e r)
  | _, _, .lst h n r => .lst (e.keep _ _ h n.1) ⟨e.nin h n.1, n.2⟩ (RDs.ext e r)
  | _, _, .fzl h r => .fzl (h.ext e) (RDs.ext e r)
  | _, _, .ref h => .ref (get_pre e h)
  | _, _, .glo => .glo
  | _, _, .ty n => .ty n
  | _, _, .inst h n r => .inst (e.keep _ _ h n.1) ⟨e.nin h n.1, n.2⟩ (RFs.ext e r)
  | _, _, .dcv h n r => .dcv (e.keep _ _ h n.1) ⟨e.nin h n.1, n.2⟩ (RKv.ext e r)
theorem RDs.ext (e : Ext ρ H ρ' H') : ∀ {ds vs}, RDs K ρ H ds vs → RDs K ρ' H' ds vs
  | _, _, .nil => .nil
  | _, _, .cons h t => .cons (RD.ext e h) (RDs.ext e t)
theorem RFs.ext (e : Ext ρ H ρ' H') : ∀ {ds vs}, RFs K ρ H ds vs → RFs K ρ' H' ds vs
  | _, _, .nil => .nil
  | _, _, .cons h t => .cons (RD.ext e h) (RFs.ext e t)
theorem RKv.ext (e : Ext ρ H ρ' H') : ∀ {fs vs}, RKv K ρ H fs vs → RKv K ρ' H' fs vs
  | _, _, .nil => .nil
  | _, _, .cons h t => .cons (RD.ext e h) (RKv.ext e t)
end
theorem RKv.ks : ∀ {ds vs}, RKv K ρ H ds vs → RKs K ρ H ds vs
  | _, _, .nil => .nil
  | _, _, .cons h t => .cons ⟨rfl, h⟩ (RKv.ks t)
theorem RKs.kv : ∀ {ds vs}, RKs K ρ H ds vs → RKv K ρ H ds vs
  | _, _, .nil => .nil
  | (_, _) :: _, (_, _) :: _, .cons h t => by
    obtain ⟨e, r⟩ := h
    cases e
    exact .cons r (RKs.kv t)
end
end DL

namespace DL
open PySem L2

structure Exn where
  cls : Str
  fs : List (Str × D)

/-- what an expression, a call ends in -/
inductive Out where
  | ok (d : D) (M : Mem)
  | ex (x : Exn) (M : Mem)
  | st
/-- .. an argument list, what is walked -/
inductive OutL where
  | ok (ds : List D) (M : Mem)
  | ex (x : Exn) (M : Mem)
  | st
/-- a statement -/
inductive OutS where
  | nx (e : Env) (M : Mem)
  | rt (d : D) (M : Mem)
  | bk (e : Env) (M : Mem)
  | ct (e : Env) (M : Mem)
  | ex (x : Exn) (e : Env) (M : Mem)
  | st
abbrev Ev := Env → Mem → Out
abbrev EvL := Env → Mem → OutL
abbrev Sx := Env → Mem → OutS
abbrev Fn := List D → Mem → Out
/-- a target -/
abbrev Tg := D → Env → Mem → OutS

def Out.bind (r : Out) (k : D → Mem → Out) : Out := match r with
  | .ok d M => k d M
  | .ex x M => .ex x M
  | .st => .st
def Out.bindL (r : Out) (k : D → Mem → OutL) : OutL := match r with
  | .ok d M => k d M
  | .ex x M => .ex x M
  | .st => .st
def OutL.bind (r : OutL) (k : List D → Mem → Out) : Out := match r with
  | .ok d M => k d M
  | .ex x M => .ex x M
  | .st => .st
def OutL.bindL (r : OutL) (k : List D → Mem → OutL) : OutL := match r with
  | .ok d M => k d M
  | .ex x M => .ex x M
  | .st => .st
def Out.bindS (r : Out) (e : Env) (k : D → Mem → OutS) : OutS := match r with
  | .ok d M => k d M
  | .ex x M => .ex x e M
  | .st => .st
def OutL.bindS (r : OutL) (e : Env) (k : List D → Mem → OutS) : OutS := match r with
  | .ok d M => k d M
  | .ex x M => .ex x e M
  | .st => .st
def OutS.bind (r : OutS) (k : Env → Mem → OutS) : OutS := match r with
  | .nx e M => k e M
  | r => r

/-- the slots -/
def RE (K : Kx) (ρ : List Addr) (H : Hp) (env : Env) (σ : L2.St) : Prop :=
  Paired (fun o p => ∀ d, o = some d → ∃ v, p = some v ∧ RD K ρ H d v) env σ
/-- an exception's fields -/
def ExR (K : Kx) (ρ : List Addr) (H : Hp) (x : Exn) (dx : Addr) : Prop := (dx ∉ ρ ∧ dx ∉ K.φ) ∧ ∃ gs, H dx = some (.xd gs) ∧ RFs K ρ H x.fs gs

section
variable (K : Kx) (W : WX) (ρ : List Addr) (σ : L2.St) (H : Hp)
def PostX (x : Exn) (M : Mem) (σ : L2.St) : Prop := ∀ ρ' H' dx, Ext ρ H ρ' H' → MOk K ρ' M H' → ExR K ρ' H' x dx → W (.ref (gadr K.K x.cls)) (some dx) σ H'
def Post (r : Out) (Q : VK) : Prop := match r with
  | .ok d M => ∀ ρ' H' v, Ext ρ H ρ' H' → MOk K ρ' M H' → RD K ρ' H' d v → Q v H'
  | .ex x M => PostX K W ρ H x M σ
  | .st => False
def PostT (r : Out) (Q : Bool → Hp → Prop) : Prop := match r with
  | .ok (.bl b) M => ∀ ρ' H', Ext ρ H ρ' H' → MOk K ρ' M H' → Q b H'
  | .ok _ M => False
  | .ex x M => PostX K W ρ H x M σ
  | .st => False
def PostL (r : OutL) (Q : List V → Hp → Prop) : Prop := match r with
  | .ok ds M => ∀ ρ' H' vs, Ext ρ H ρ' H' → MOk K ρ' M H' → RDs K ρ' H' ds vs → Q vs H'
  | .ex x M => PostX K W ρ H x M σ
  | .st => False
/-- behind a statement -/
def PostS (r : OutS) (D : Ends) : Prop := match r with
  | .nx e M => ∀ ρ' H' σ', Ext ρ H ρ' H' → MOk K ρ' M H' → RE K ρ' H' e σ' → D.nx σ' H'
  | .rt d M => ∀ ρ' H' v, Ext ρ H ρ' H' → MOk K ρ' M H' → RD K ρ' H' d v → D.rt v H'
  | .bk e M => ∀ ρ' H' σ', Ext ρ H ρ' H' → MOk K ρ' M H' → RE K ρ' H' e σ' → D.bk σ' H'
  | .ct e M => ∀ ρ' H' σ', Ext ρ H ρ' H' → MOk K ρ' M H' → RE K ρ' H' e σ' → D.ct σ' H'
  | .ex x e M => ∀ ρ' H' σ' dx, Ext ρ H ρ' H' → MOk K ρ' M H' → RE K ρ' H' e σ' → ExR K ρ' H' x dx → W (.ref (gadr K.K x.cls)) (some dx) σ' H'
  | .st => False
end
/-- a target's store -/
def PostG (K : Kx) (ρ : List Addr) (H : Hp) (r : OutS) (Q : L2.St → Hp → Prop) : Prop := match r with
  | .nx e M => ∀ ρ' H' σ', Ext ρ H ρ' H' → MOk K ρ' M H' → RE K ρ' H' e σ' → Q σ' H'
  | _ => False

/-! ### the judgements: a piece of the text computes f -/
def DE (X : Cx) (W : WX) (e : Expr) (f : Ev) : Prop := ∃ t, PE X e t ∧ ∀ φ ρ env M σ H Q, RE ⟨X.K, φ⟩ ρ H env σ → MOk ⟨X.K, φ⟩ ρ M H → Post ⟨X.K, φ⟩ W ρ σ H (f env M) Q → t σ H Q
def DT (X : Cx) (W : WX) (e : Expr) (f : Ev) : Prop := ∃ t, PT X e t ∧ ∀ φ ρ env M σ H Q, RE ⟨X.K, φ⟩ ρ H env σ → MOk ⟨X.K, φ⟩ ρ M H → PostT ⟨X.K, φ⟩ W ρ σ H (f env M) Q → t σ H Q
def DW (X : Cx) (W : WX) (e : Expr) (f : Ev) : Prop := ∃ t, PW X e t ∧ ∀ φ ρ env M σ H Q, RE ⟨X.K, φ⟩ ρ H env σ → MOk ⟨X.K, φ⟩ ρ M H → PostT ⟨X.K, φ⟩ W ρ σ H (f env M) Q → t σ H Q
def DA (X : Cx) (W : WX) (es : List Expr) (f : EvL) : Prop := ∃ t, PA X es t ∧ (∀ env M ds M', f env M = .ok ds M' → ds.length = es.length) ∧ ∀ φ ρ env M σ H Q, RE ⟨X.K, φ⟩ ρ H env σ → MOk ⟨X.K, φ⟩ ρ M H → PostL ⟨X.K, φ⟩ W ρ σ H (f env M) Q → t σ H Q
def DS (X : Cx) (W : WX) (st : Stmt) (f : Sx) : Prop := ∃ t, PS X st t ∧ ∀ φ ρ env M σ H E, RE ⟨X.K, φ⟩ ρ H env σ → MOk ⟨X.K, φ⟩ ρ M H → PostS ⟨X.K, φ⟩ W ρ H (f env M) E → t E σ H
def DB (X : Cx) (W : WX) (st : List Stmt) (f : Sx) : Prop := ∃ t, PSs X st t ∧ ∀ φ ρ env M σ H E, RE ⟨X.K, φ⟩ ρ H env σ → MOk ⟨X.K, φ⟩ ρ M H → PostS ⟨X.K, φ⟩ W ρ H (f env M) E → t E σ H
def DG (X : Cx) (e : Expr) (f : Tg) : Prop := ∃ t, PG X e t ∧ ∀ φ ρ env M σ H d v Q, RE ⟨X.K, φ⟩ ρ H env σ → MOk ⟨X.K, φ⟩ ρ M H → RD ⟨X.K, φ⟩ ρ H d v → PostG ⟨X.K, φ⟩ ρ H (f d env M) Q → t v σ H Q

section
variable {K : Kx} {W : WX} {ρ ρ' ρ1 : List Addr} {σ : L2.St} {H H' H1 : Hp} {env : Env} {M : Mem}
theorem RE.ext (e : Ext ρ H ρ' H') (h : RE K ρ H env σ) : RE K ρ' H' env σ := L2.Paired.mapP h fun o p q d hd => by
  obtain ⟨v, hv, r⟩ := q d hd
  exact ⟨v, hv, r.ext e⟩
theorem PostX.ext {x : Exn} (e : Ext ρ H ρ1 H1) (h : PostX K W ρ H x M σ) : PostX K W ρ1 H1 x M σ := fun ρ' H' dx a b c => h ρ' H' dx (e.trans a) b c
theorem Post.ext {r : Out} {Q : VK} (e : Ext ρ H ρ1 H1) (h : Post K W ρ σ H r Q) : Post K W ρ1 σ H1 r Q := by
  cases r with
  | ok d M => exact fun ρ' H' v a b c => h ρ' H' v (e.trans a) b c
  | ex x M => exact PostX.ext e h
  | st => exact h
theorem PostT.ext {r : Out} {Q : Bool → Hp → Prop} (e : Ext ρ H ρ1 H1) (h : PostT K W ρ σ H r Q) : PostT K W ρ1 σ H1 r Q := by
  cases r with
  | ok d M =>
    cases d with
    | bl b => exact fun ρ' H' a b => h ρ' H' (e.trans a) b
    | _ => exact h
  | ex x M => exact PostX.ext e h
  | st => exact h
theorem PostL.ext {r : OutL} {Q : List V → Hp → Prop} (e : Ext ρ H ρ1 H1) (h : PostL K W ρ σ H r Q) : PostL K W ρ1 σ H1 r Q := by
  cases r with
  | ok d M => exact fun ρ' H' v a b c => h ρ' H' v (e.trans a) b c
  | ex x M => exact PostX.ext e h
  | st => exact h
theorem PostS.ext {r : OutS} {E : Ends} (e : Ext ρ H ρ1 H1) (h : PostS K W ρ H r E) : PostS K W ρ1 H1 r E := by
  cases r with
  | nx d M => exact fun ρ' H' v a b c => h ρ' H' v (e.trans a) b c
  | rt d M => exact fun ρ' H' v a b c => h ρ' H' v (e.trans a) b c
  | bk d M => exact fun ρ' H' v a b c => h ρ' H' v (e.trans a) b c
  | ct d M => exact fun ρ' H' v a b c => h ρ' H' v (e.trans a) b c
  | ex x d M => exact fun ρ' H' v dx a b c d => h ρ' H' v dx (e.trans a) b c d
  | st => exact h
theorem PostG.ext {r : OutS} {Q : L2.St → Hp → Prop} (e : Ext ρ H ρ1 H1) (h : PostG K ρ H r Q) : PostG K ρ1 H1 r Q := by
  cases r with
  | nx d M => exact fun ρ' H' v a b c => h ρ' H' v (e.trans a) b c
  | _ => exact h
/-- one after the other: what stands behind the first is got from where it ends -/
theorem Post.bind {r : Out} {k : D → Mem → Out} {Q Q1 : VK} (h : Post K W ρ σ H (r.bind k) Q)
    (f : ∀ d M ρ' H' v, Ext ρ H ρ' H' → MOk K ρ' M H' → RD K ρ' H' d v → Post K W ρ' σ H' (k d M) Q → Q1 v H') : Post K W ρ σ H r Q1 := by
  cases r with
  | ok d M => exact fun ρ' H' v a b c => f d M ρ' H' v a b c (Post.ext a h)
  | ex x M => exact h
  | st => exact h
theorem Post.bindL {r : Out} {k : D → Mem → OutL} {Q : List V → Hp → Prop} {Q1 : VK} (h : PostL K W ρ σ H (r.bindL k) Q)
    (f : ∀ d M ρ' H' v, Ext ρ H ρ' H' → MOk K ρ' M H' → RD K ρ' H' d v → PostL K W ρ' σ H' (k d M) Q → Q1 v H') : Post K W ρ σ H r Q1 := by
  cases r with
  | ok d M => exact fun ρ' H' v a b c => f d M ρ' H' v a b c (PostL.ext a h)
  | ex x M => exact h
  | st => exact h
theorem PostL.bind {r : OutL} {k : List D → Mem → Out} {Q : VK} {Q1 : List V → Hp → Prop} (h : Post K W ρ σ H (r.bind k) Q)
    (f : ∀ d M ρ' H' v, Ext ρ H ρ' H' → MOk K ρ' M H' → RDs K ρ' H' d v → Post K W ρ' σ H' (k d M) Q → Q1 v H') : PostL K W ρ σ H r Q1 := by
  cases r with
  | ok d M => exact fun ρ' H' v a b c => f d M ρ' H' v a b c (Post.ext a h)
  | ex x M => exact h
  | st => exact h
theorem PostL.bindL {r : OutL} {k : List D → Mem → OutL} {Q Q1 : List V → Hp → Prop} (h : PostL K W ρ σ H (r.bindL k) Q)
    (f : ∀ d M ρ' H' v, Ext ρ H ρ' H' → MOk K ρ' M H' → RDs K ρ' H' d v → PostL K W ρ' σ H' (k d M) Q → Q1 v H') : PostL K W ρ σ H r Q1 := by
  cases r with
  | ok d M => exact fun ρ' H' v a b c => f d M ρ' H' v a b c (PostL.ext a h)
  | ex x M => exact h
  | st => exact h
theorem Post.bindS {r : Out} {k : D → Mem → OutS} {E : Ends} {Q1 : VK} (he : RE K ρ H env σ) (h : PostS K W ρ H (r.bindS env k) E)
    (f : ∀ d M ρ' H' v, Ext ρ H ρ' H' → MOk K ρ' M H' → RD K ρ' H' d v → PostS K W ρ' H' (k d M) E → Q1 v H') : Post K W ρ σ H r Q1 := by
  cases r with
  | ok d M => exact fun ρ' H' v a b c => f d M ρ' H' v a b c (PostS.ext a h)
  | ex x M => exact fun ρ' H' dx a b c => h ρ' H' σ dx a b (he.ext a) c
  | st => exact h
theorem PostL.bindS {r : OutL} {k : List D → Mem → OutS} {E : Ends} {Q1 : List V → Hp → Prop} (he : RE K ρ H env σ) (h : PostS K W ρ H (r.bindS env k) E)
    (f : ∀ d M ρ' H' v, Ext ρ H ρ' H' → MOk K ρ' M H' → RDs K ρ' H' d v → PostS K W ρ' H' (k d M) E → Q1 v H') : PostL K W ρ σ H r Q1 := by
  cases r with
  | ok d M => exact fun ρ' H' v a b c => f d M ρ' H' v a b c (PostS.ext a h)
  | ex x M => exact fun ρ' H' dx a b c => h ρ' H' σ dx a b (he.ext a) c
  | st => exact h
end
end DL

namespace DL
open PySem L2

section
variable {K : Kx} {W : WX} {ρ ρ' ρ1 : List Addr} {σ : L2.St} {H H' H1 : Hp} {env : Env} {M : Mem} {p : Addr} {o u : HO}
theorem MOk.tracked (m : MOk K ρ M H) {a : Addr} (h : a ∈ ρ) : ∃ (l : Nat) (ob : Ob) (u : HO), M[l]? = some ob ∧ ρ[l]? = some a ∧ H a = some u ∧ RO K ρ H ob u := by
  obtain ⟨l, hl⟩ := List.getElem?_of_mem h
  have h1 : l < ρ.length := (List.getElem?_eq_some_iff.mp hl).1
  have h2 : l < M.length := by have := m.len; omega
  obtain ⟨u, hu, r⟩ := m.at_ l M[l] a (by simp [h2]) hl
  exact ⟨l, M[l], u, by simp [h2], hl, hu, r⟩
theorem MOk.fresh (m : MOk K ρ M H) (h : H p = none) : p ∉ ρ ∧ p ∉ K.φ := by
  constructor
  · intro z
    obtain ⟨_, _, u, _, _, e, _⟩ := m.tracked z
    rw [h] at e; cases e
  · intro z
    obtain ⟨u, e, _⟩ := m.hid p z
    rw [h] at e; cases e
theorem RO.own {ob : Ob} (r : RO K ρ H ob u) : Own u := by
  cases ob with
  | lst ds => obtain ⟨_, rfl, _⟩ := r; trivial
  | dic ds => obtain ⟨_, rfl, _⟩ := r; trivial
  | ins c ds => obtain ⟨_, _, rfl, _⟩ := r; trivial
theorem MOk.ownAt (m : MOk K ρ M H) {a : Addr} (h : a ∈ ρ ∨ a ∈ K.φ) : ∃ u, H a = some u ∧ Own u := by
  rcases h with h | h
  · obtain ⟨_, _, u, _, _, e, r⟩ := m.tracked h
    exact ⟨u, e, r.own⟩
  · exact m.hid a h
/-- an object that never changes is not of the store -/
theorem MOk.nin (m : MOk K ρ M H) {a : Addr} (e : H a = some o) (n : ¬ Own o) : a ∉ ρ ∧ a ∉ K.φ := by
  constructor <;> (intro z; obtain ⟨u, e', ow⟩ := m.ownAt (by first | exact .inl z | exact .inr z); rw [e] at e'; cases e'; exact n ow)
theorem RKs.ext {ds : List (Key × D)} {vs : List (Key × V)} (e : Ext ρ H ρ' H') (h : RKs K ρ H ds vs) : RKs K ρ' H' ds vs := L2.Paired.mapP h fun p q z => ⟨z.1, z.2.ext e⟩
theorem RO.ext {ob : Ob} (e : Ext ρ H ρ' H') (h : RO K ρ H ob u) : RO K ρ' H' ob u := by
  cases ob with
  | lst ds => obtain ⟨xs, rfl, r⟩ := h; exact ⟨xs, rfl, r.ext e⟩
  | dic ds => obtain ⟨xs, rfl, r⟩ := h; exact ⟨xs, rfl, r.ext e⟩
  | ins c ds => obtain ⟨dx, xs, rfl, r⟩ := h; exact ⟨dx, xs, rfl, r.ext e⟩
theorem Ext.new (h : H p = none) : Ext ρ H ρ (upd H p o) :=
  ⟨⟨[], by simp, by simp⟩, fun a u e _ => by rw [upd_ne (ne_of_none e h)]; exact e, fun a e => by
    by_cases z : a = p
    · subst z; exact h
    · rw [upd_ne z] at e; exact e⟩
theorem Ext.push (h : H p = none) : Ext ρ H (ρ ++ [p]) (upd H p o) :=
  ⟨⟨[p], rfl, fun a z => by obtain rfl := List.mem_singleton.mp z; exact h⟩, (Ext.new (ρ := ρ) h).keep, (Ext.new (ρ := ρ) h).live⟩
/-- whatever keeps the store's own objects -/
theorem MOk.keep (m : MOk K ρ M H) (e : Ext ρ H ρ H') (k : ∀ a ∈ ρ, H' a = H a) : MOk K ρ M H' := by
  refine ⟨m.nd, m.len, fun a z => ?_, fun l ob a h1 h2 => ?_⟩
  · obtain ⟨u, hu, ow⟩ := m.hid a z
    by_cases hr : a ∈ ρ
    · exact ⟨u, by rw [k a hr]; exact hu, ow⟩
    · exact ⟨u, e.keep a u hu hr, ow⟩
  · obtain ⟨u, hu, r⟩ := m.at_ l ob a h1 h2
    exact ⟨u, by rw [k a (List.mem_of_getElem? h2)]; exact hu, r.ext e⟩
theorem MOk.new (m : MOk K ρ M H) (h : H p = none) : MOk K ρ M (upd H p o) := m.keep (Ext.new h) fun a z => upd_ne fun e => (m.fresh h).1 (e ▸ z)
theorem MOk.push {ob : Ob} (m : MOk K ρ M H) (h : H p = none) (r : RO K (ρ ++ [p]) (upd H p u) ob u) : MOk K (ρ ++ [p]) (M ++ [ob]) (upd H p u) := by
  have fr := m.fresh h
  have e : Ext ρ H (ρ ++ [p]) (upd H p u) := Ext.push h
  refine ⟨?_, by simp [m.len], fun a z => ?_, fun l ob' a h1 h2 => ?_⟩
  · rw [List.nodup_append]
    refine ⟨m.nd, by simp, fun a ha b hb => ?_⟩
    obtain rfl := List.mem_singleton.mp hb
    exact fun z => fr.1 (z ▸ ha)
  · obtain ⟨v, hv, ow⟩ := m.hid a z
    exact ⟨v, by rw [upd_ne (ne_of_none hv h)]; exact hv, ow⟩
  · by_cases hl : l < M.length
    · rw [List.getElem?_append_left hl] at h1
      rw [List.getElem?_append_left (by rw [m.len]; exact hl)] at h2
      obtain ⟨v, hv, r'⟩ := m.at_ l ob' a h1 h2
      exact ⟨v, by rw [upd_ne (ne_of_none hv h)]; exact hv, r'.ext e⟩
    · have hl2 : l < (M ++ [ob]).length := (List.getElem?_eq_some_iff.mp h1).1
      have hl3 : l = M.length := by simp at hl2; omega
      subst hl3
      rw [List.getElem?_concat_length] at h1
      rw [← m.len, List.getElem?_concat_length] at h2
      cases h1; cases h2
      exact ⟨u, upd_same, r⟩
theorem Ext.write {a : Addr} (h : H a ≠ none) (ha : a ∈ ρ) : Ext ρ H ρ (upd H a u) :=
  ⟨⟨[], by simp, by simp⟩, fun b v e n => by rw [upd_ne (fun z : b = a => n (by rw [z]; exact ha))]; exact e, fun b e => by
    by_cases z : b = a
    · subst z; rw [upd_same] at e; cases e
    · rw [upd_ne z] at e; exact e⟩
theorem MOk.set {l : Nat} {a : Addr} {ob : Ob} (m : MOk K ρ M H) (hl : ρ[l]? = some a) (r : RO K ρ (upd H a u) ob u) : MOk K ρ (M.set l ob) (upd H a u) := by
  have ha : a ∈ ρ := List.mem_of_getElem? hl
  have hne : H a ≠ none := by
    obtain ⟨v, e, _⟩ := m.ownAt (.inl ha)
    rw [e]; simp
  have e : Ext ρ H ρ (upd H a u) := Ext.write hne ha
  refine ⟨m.nd, by simp [m.len], fun b z => ?_, fun k ob' b h1 h2 => ?_⟩
  · obtain ⟨v, hv, ow⟩ := m.hid b z
    by_cases hb : b = a
    · subst hb; exact ⟨u, upd_same, r.own⟩
    · exact ⟨v, by rw [upd_ne hb]; exact hv, ow⟩
  · by_cases hk : k = l
    · subst hk
      rw [hl] at h2; cases h2
      have : k < M.length := by
        have := (List.getElem?_eq_some_iff.mp hl).1
        have := m.len
        omega
      rw [List.getElem?_set_self this] at h1
      cases h1
      exact ⟨u, upd_same, r⟩
    · rw [List.getElem?_set_ne (Ne.symm hk)] at h1
      obtain ⟨v, hv, r'⟩ := m.at_ k ob' b h1 h2
      have hb : b ≠ a := by
        intro z
        subst z
        have h3 := (List.getElem?_eq_some_iff.mp h2).1
        have h4 := (List.getElem?_eq_some_iff.mp hl).1
        apply hk
        have e1 := (List.getElem?_eq_some_iff.mp h2).2
        have e2 := (List.getElem?_eq_some_iff.mp hl).2
        exact (List.getElem_inj m.nd).mp (e1.trans e2.symm)
      exact ⟨v, by rw [upd_ne hb]; exact hv, r'.ext e⟩
/-! hidden addresses more or less -/
structure Hid (K K' : Kx) (H : Hp) : Prop where
  eq : K'.K = K.K
  new : ∀ a, a ∈ K'.φ → a ∈ K.φ ∨ H a = none
theorem Hid.refl : Hid K K H := ⟨rfl, fun _ h => .inl h⟩
theorem Hid.nin {K' : Kx} (h : Hid K K' H) {a : Addr} (e : H a = some o) (n : a ∉ ρ ∧ a ∉ K.φ) : a ∉ ρ ∧ a ∉ K'.φ := ⟨n.1, fun z => by
  rcases h.new a z with z | z
  · exact n.2 z
  · rw [e] at z; cases z⟩
theorem Rd.tracked {a : Addr} (h : Rd H a u) : ∃ o, H a = some o := by
  rcases h with h | ⟨o, h⟩
  · exact ⟨_, h⟩
  · exact ⟨_, h⟩
theorem SqTf.hide {K' : Kx} {a : Addr} {xs : List V} (hh : Hid K K' H) (h : SqTf K ρ H a xs) : SqTf K' ρ H a xs := by
  rcases h with ⟨⟨o, e, d⟩, n⟩ | k
  · exact .inl ⟨⟨o, e, d⟩, hh.nin e n⟩
  · exact .inr (by rw [hh.eq]; exact k)
theorem SqLf.hide {K' : Kx} {a : Addr} {xs : List V} (hh : Hid K K' H) (h : SqLf K ρ H a xs) : SqLf K' ρ H a xs := by
  rcases h with ⟨r, n⟩ | k
  · obtain ⟨o, e⟩ := Rd.tracked r
    exact .inl ⟨r, hh.nin e n⟩
  · exact .inr (by rw [hh.eq]; exact k)
mutual
theorem RD.hide {K' : Kx} (hh : Hid K K' H) : ∀ {d v}, RD K ρ H d v → RD K' ρ H d v
  | _, _, .non => .non
  | _, _, .bl b => .bl b
  | _, _, .int i => .int i
  | _, _, .str x => .str x
  | _, _, .tup h r => .tup (h.hide hh) (RDs.hide hh r)
  | _, _, .itm h n r => .itm h (hh.nin h n) (RDs.hide hh r)
  | _, _, .lst h n r => .lst h (hh.nin h n) (RDs.hide hh r)
  | _, _, .fzl h r => .fzl (h.hide hh) (RDs.hide hh r)
  | _, _, .ref h => .ref h
  | _, _, .glo => by rw [← hh.eq]; exact .glo
  | _, _, .ty n => .ty n
  | _, _, .inst h n r => .inst (by rw [hh.eq]; exact h) (hh.nin h n) (RFs.hide hh r)
  | _, _, .dcv h n r => .dcv h (hh.nin h n) (RKv.hide hh r)
theorem RDs.hide {K' : Kx} (hh : Hid K K' H) : ∀ {ds vs}, RDs K ρ H ds vs → RDs K' ρ H ds vs
  | _, _, .nil => .nil
  | _, _, .cons h t => .cons (RD.hide hh h) (RDs.hide hh t)
theorem RFs.hide {K' : Kx} (hh : Hid K K' H) : ∀ {ds vs}, RFs K ρ H ds vs → RFs K' ρ H ds vs
  | _, _, .nil => .nil
  | _, _, .cons h t => .cons (RD.hide hh h) (RFs.hide hh t)
theorem RKv.hide {K' : Kx} (hh : Hid K K' H) : ∀ {ds vs}, RKv K ρ H ds vs → RKv K' ρ H ds vs
  | _, _, .nil => .nil
  | _, _, .cons h t => .cons (RD.hide hh h) (RKv.hide hh t)
end
theorem RE.hide {K' : Kx} (hh : Hid K K' H) (h : RE K ρ H env σ) : RE K' ρ H env σ := L2.Paired.mapP h fun o p q d hd => by
  obtain ⟨v, hv, r⟩ := q d hd
  exact ⟨v, hv, r.hide hh⟩
theorem RO.hide {K' : Kx} (hh : Hid K K' H) {ob : Ob} (h : RO K ρ H ob u) : RO K' ρ H ob u := by
  cases ob with
  | lst ds => obtain ⟨xs, rfl, r⟩ := h; exact ⟨xs, rfl, r.hide hh⟩
  | dic ds => obtain ⟨xs, rfl, r⟩ := h; exact ⟨xs, rfl, L2.Paired.mapP r fun p q z => ⟨z.1, z.2.hide hh⟩⟩
  | ins c ds => obtain ⟨dx, xs, rfl, r⟩ := h; exact ⟨dx, xs, by rw [hh.eq], r.hide hh⟩
/-- the same store, fewer hidden -/
theorem MOk.hide {K' : Kx} (hh : Hid K K' H) (m : MOk K ρ M H) (t : ∀ a, a ∈ K'.φ → ∃ u, H a = some u ∧ Own u) : MOk K' ρ M H :=
  ⟨m.nd, m.len, t, fun l ob a h1 h2 => by
    obtain ⟨u, hu, r⟩ := m.at_ l ob a h1 h2
    exact ⟨u, hu, r.hide hh⟩⟩
/-! a hidden object changes -/
section
variable {a : Addr} {w : HO}
theorem Rd.hid {b : Addr} (ha : a ∈ K.φ) (h : Rd H b u) (n : b ∉ ρ ∧ b ∉ K.φ) : Rd (upd H a w) b u := by
  have e : b ≠ a := fun z => n.2 (by rw [z]; exact ha)
  rcases h with h | ⟨o, h⟩
  · exact .inl (by rw [upd_ne e]; exact h)
  · exact .inr ⟨o, by rw [upd_ne e]; exact h⟩
theorem FzT.hid {b : Addr} {xs : List V} (ha : a ∈ K.φ) (h : FzT H b xs) (n : b ∉ ρ ∧ b ∉ K.φ) : FzT (upd H a w) b xs := by
  have e : b ≠ a := fun z => n.2 (by rw [z]; exact ha)
  obtain ⟨o, h, d⟩ := h
  exact ⟨o, by rw [upd_ne e]; exact h, d⟩
mutual
theorem RD.hid (ha : a ∈ K.φ) : ∀ {d v}, RD K ρ H d v → RD K ρ (upd H a w) d v
  | _, _, .non => .non
  | _, _, .bl b => .bl b
  | _, _, .int i => .int i
  | _, _, .str x => .str x
  | _, _, .tup h r => .tup (h.elim (fun z => .inl ⟨FzT.hid ha z.1 z.2, z.2⟩) .inr) (RDs.hid ha r)
  | _, _, .itm h n r => .itm (by rw [upd_ne (fun z => n.2 (by rw [z]; exact ha))]; exact h) n (RDs.hid ha r)
  | _, _, .lst h n r => .lst (by rw [upd_ne (fun z => n.2 (by rw [z]; exact ha))]; exact h) n (RDs.hid ha r)
  | _, _, .fzl h r => .fzl (h.elim (fun z => .inl ⟨Rd.hid ha z.1 z.2, z.2⟩) .inr) (RDs.hid ha r)
  | _, _, .ref h => .ref h
  | _, _, .glo => .glo
  | _, _, .ty n => .ty n
  | _, _, .inst h n r => .inst (by rw [upd_ne (fun z => n.2 (by rw [z]; exact ha))]; exact h) n (RFs.hid ha r)
  | _, _, .dcv h n r => .dcv (by rw [upd_ne (fun z => n.2 (by rw [z]; exact ha))]; exact h) n (RKv.hid ha r)
theorem RDs.hid (ha : a ∈ K.φ) : ∀ {ds vs}, RDs K ρ H ds vs → RDs K ρ (upd H a w) ds vs
  | _, _, .nil => .nil
  | _, _, .cons h t => .cons (RD.hid ha h) (RDs.hid ha t)
theorem RFs.hid (ha : a ∈ K.φ) : ∀ {ds vs}, RFs K ρ H ds vs → RFs K ρ (upd H a w) ds vs
  | _, _, .nil => .nil
  | _, _, .cons h t => .cons (RD.hid ha h) (RFs.hid ha t)
theorem RKv.hid (ha : a ∈ K.φ) : ∀ {ds vs}, RKv K ρ H ds vs → RKv K ρ (upd H a w) ds vs
  | _, _, .nil => .nil
  | _, _, .cons h t => .cons (RD.hid ha h) (RKv.hid ha t)
end
theorem RO.hid (ha : a ∈ K.φ) {ob : Ob} (h : RO K ρ H ob u) : RO K ρ (upd H a w) ob u := by
  cases ob with
  | lst ds => obtain ⟨xs, rfl, r⟩ := h; exact ⟨xs, rfl, r.hid ha⟩
  | dic ds => obtain ⟨xs, rfl, r⟩ := h; exact ⟨xs, rfl, L2.Paired.mapP r fun p q z => ⟨z.1, z.2.hid ha⟩⟩
  | ins c ds => obtain ⟨dx, xs, rfl, r⟩ := h; exact ⟨dx, xs, rfl, r.hid ha⟩
theorem MOk.hid' (ha : a ∈ K.φ) (n : a ∉ ρ) (ow : Own w) (m : MOk K ρ M H) : MOk K ρ M (upd H a w) := by
  refine ⟨m.nd, m.len, fun b z => ?_, fun l ob b h1 h2 => ?_⟩
  · by_cases e : b = a
    · subst e; exact ⟨w, upd_same, ow⟩
    · obtain ⟨v, hv, o⟩ := m.hid b z
      exact ⟨v, by rw [upd_ne e]; exact hv, o⟩
  · obtain ⟨v, hv, r⟩ := m.at_ l ob b h1 h2
    exact ⟨v, by rw [upd_ne (fun z : b = a => n (by rw [← z]; exact List.mem_of_getElem? h2))]; exact hv, r.hid ha⟩
end
theorem RDs.length {ds : List D} {vs : List V} (h : RDs K ρ H ds vs) : ds.length = vs.length := by
  induction ds generalizing vs with
  | nil => cases h; rfl
  | cons d ds ih => cases h with | cons a b => simp [ih b]
theorem RDs.get {ds : List D} {vs : List V} (h : RDs K ρ H ds vs) {i : Nat} {d : D} (e : ds[i]? = some d) : ∃ v, vs[i]? = some v ∧ RD K ρ H d v := by
  induction ds generalizing vs i with
  | nil => simp at e
  | cons x ds ih => cases h with
    | cons a b =>
      cases i with
      | zero => simp at e; subst e; exact ⟨_, rfl, a⟩
      | succ i => exact ih b (by simpa using e)
theorem RDs.append {ds es : List D} {vs ws : List V} (h : RDs K ρ H ds vs) (h2 : RDs K ρ H es ws) : RDs K ρ H (ds ++ es) (vs ++ ws) := by
  induction ds generalizing vs with
  | nil => cases h; exact h2
  | cons x ds ih => cases h with | cons a b => exact .cons a (ih b)
theorem RDs.set {ds : List D} {vs : List V} {d : D} {v : V} (h : RDs K ρ H ds vs) (r : RD K ρ H d v) (i : Nat) : RDs K ρ H (ds.set i d) (vs.set i v) := by
  induction ds generalizing vs i with
  | nil => cases h; exact .nil
  | cons x ds ih => cases h with
    | cons a b =>
      cases i with
      | zero => exact .cons r b
      | succ i => exact .cons a (ih b i)
theorem RDs.take {ds : List D} {vs : List V} (h : RDs K ρ H ds vs) (n : Nat) : RDs K ρ H (ds.take n) (vs.take n) := by
  induction ds generalizing vs n with
  | nil => cases h; simp; exact .nil
  | cons x ds ih => cases h with
    | cons a b =>
      cases n with
      | zero => exact .nil
      | succ n => exact .cons a (ih b n)
theorem RDs.drop {ds : List D} {vs : List V} (h : RDs K ρ H ds vs) (n : Nat) : RDs K ρ H (ds.drop n) (vs.drop n) := by
  induction ds generalizing vs n with
  | nil => cases h; simp; exact .nil
  | cons x ds ih => cases h with
    | cons a b =>
      cases n with
      | zero => exact .cons a b
      | succ n => exact ih b n
theorem RDs.reverse {ds : List D} {vs : List V} (h : RDs K ρ H ds vs) : RDs K ρ H ds.reverse vs.reverse := by
  induction ds generalizing vs with
  | nil => cases h; exact .nil
  | cons x ds ih => cases h with
    | cons a b => simp only [List.reverse_cons]; exact (ih b).append (.cons a .nil)
theorem RE.length (h : RE K ρ H env σ) : env.length = σ.length := Paired.length h
theorem RE.get {i : Nat} {d : D} (h : RE K ρ H env σ) (e : env[i]? = some (some d)) : ∃ v, σ[i]? = some (some v) ∧ RD K ρ H d v := by
  unfold RE at h; induction h generalizing i with
  | nil => simp at e
  | cons a b ih =>
    cases i with
    | zero =>
      simp at e
      obtain ⟨v, hv, r⟩ := a d e
      exact ⟨v, by simp [hv], r⟩
    | succ i => exact ih (by simpa using e)
theorem RE.set {i : Nat} {d : D} {v : V} (h : RE K ρ H env σ) (r : RD K ρ H d v) : RE K ρ H (env.set i (some d)) (σ.set i (some v)) := by
  unfold RE at h ⊢; induction h generalizing i with
  | nil => exact .nil
  | cons a b ih =>
    cases i with
    | zero => exact .cons (fun d' e => by cases e; exact ⟨v, rfl, r⟩) b
    | succ i => exact .cons a ih
theorem RE.wipe1 {i : Nat} {q : Option V} (h : RE K ρ H env σ) : RE K ρ H (env.set i none) (σ.set i q) := by
  unfold RE at h ⊢; induction h generalizing i with
  | nil => exact .nil
  | cons a b ih =>
    cases i with
    | zero => exact .cons (fun d' e => by cases e) b
    | succ i => exact .cons a ih
/-- a list that can be read: by value, or of the store -/
def derefL (M : Mem) : D → Option (List D)
  | .lst xs => some xs
  | .fzl xs => some xs
  | .ref l => match M[l]? with
    | some (.lst xs) => some xs
    | _ => none
  | _ => none
theorem derefL_ok {d : D} {v : V} {ds : List D} (m : MOk K ρ M H) (r : RD K ρ H d v) (e : derefL M d = some ds) : ∃ a xs, v = .ref a ∧ SqL K.K H a xs ∧ RDs K ρ H ds xs := by
  cases r with
  | lst h n r => cases e; exact ⟨_, _, rfl, .inl (.inl h), r⟩
  | fzl h r => cases e; exact ⟨_, _, rfl, h.sq, r⟩
  | ref h =>
    rename_i l a
    have e' : (match M[l]? with | some (.lst xs) => some xs | _ => none) = some ds := e
    split at e'
    · rename_i xs hx
      cases e'
      obtain ⟨u, hu, q⟩ := m.at_ _ _ _ hx h
      obtain ⟨ys, rfl, r⟩ := q
      exact ⟨_, _, rfl, .inl (.inl hu), r⟩
    · cases e'
  | _ => cases e
/-- .. and is known to the letter -/
def derefW (M : Mem) : D → Option (List D)
  | .lst xs => some xs
  | .ref l => match M[l]? with
    | some (.lst xs) => some xs
    | _ => none
  | _ => none
theorem derefW_ok {d : D} {v : V} {ds : List D} (m : MOk K ρ M H) (r : RD K ρ H d v) (e : derefW M d = some ds) : ∃ a xs, v = .ref a ∧ H a = some (.lst xs) ∧ RDs K ρ H ds xs := by
  cases r with
  | lst h n r => cases e; exact ⟨_, _, rfl, h, r⟩
  | ref h =>
    rename_i l a
    have e' : (match M[l]? with | some (.lst xs) => some xs | _ => none) = some ds := e
    split at e'
    · rename_i xs hx
      cases e'
      obtain ⟨u, hu, q⟩ := m.at_ _ _ _ hx h
      obtain ⟨ys, rfl, r⟩ := q
      exact ⟨_, _, rfl, hu, r⟩
    · cases e'
  | _ => cases e
end
end DL

namespace DL
open PySem L2

/-! ### names, constants, lists of arguments, displays -/
def eVar (i : Nat) : Ev := fun env M => match env[i]? with
  | some (some d) => .ok d M
  | _ => .st
def eC (d : D) : Ev := fun _ M => .ok d M
def aNil : EvL := fun _ M => .ok [] M
def aCons (f : Ev) (g : EvL) : EvL := fun env M => (f env M).bindL fun d M => (g env M).bindL fun ds M => .ok (d :: ds) M
def eTup (f : EvL) : Ev := fun env M => (f env M).bind fun ds M => .ok (.tup ds) M
/-- a list by value; a list of the store -/
def eLst (f : EvL) : Ev := fun env M => (f env M).bind fun ds M => .ok (.lst ds) M
def eNew (f : EvL) : Ev := fun env M => (f env M).bind fun ds M => .ok (.ref M.length) (M ++ [.lst ds])
def eNewD : Ev := fun env M => .ok (.ref M.length) (M ++ [.dic []])

section
variable {X : Cx} {W : WX} {pos : Pos}
theorem de_var (i : Nat) {x : Str} (hN : X.N[i]? = some x := by rfl) (hv : Vis X.env.scope x := by first | exact Or.inl rfl | exact Or.inr (Or.inl rfl) | exact Or.inr (Or.inr rfl)) (hd : (x == ("__debug__" : Str)) = false := by decide)
    (hcd : (x == ("__classdict__" : Str)) = false := by decide) : DE X W (.Name x pos) (eVar i) := by
  refine ⟨tVar i, pe_var hN hv hd hcd, fun φ ρ env M σ H Q e m h => ?_⟩
  unfold eVar at h
  split at h
  · rename_i d hd
    obtain ⟨v, hv, r⟩ := e.get hd
    exact ⟨v, hv, h _ _ _ .refl m r⟩
  · exact h.elim
theorem de_int {i j} : DE X W (.Constant (.int i) j pos) (eC (.int i)) := ⟨_, pe_int, fun φ ρ env M σ H Q e m h => h _ _ _ .refl m (.int i)⟩
theorem de_bl {b j} : DE X W (.Constant (.bool b) j pos) (eC (.bl b)) := ⟨_, pe_bl, fun φ ρ env M σ H Q e m h => h _ _ _ .refl m (.bl b)⟩
theorem de_non {j} : DE X W (.Constant .none j pos) (eC .non) := ⟨_, pe_non, fun φ ρ env M σ H Q e m h => h _ _ _ .refl m .non⟩
theorem de_str {x j} : DE X W (.Constant (.str x) j pos) (eC (.str x)) := ⟨_, pe_str, fun φ ρ env M σ H Q e m h => h _ _ _ .refl m (.str x)⟩
/-- a module's constant -/
theorem de_gcon {x : Str} {d : D} {v : V} {u : Value} (hg : Gl X x) (hm : X.mg x = some u) (r : RelV v u) (hr : ∀ φ ρ H, RD ⟨X.K, φ⟩ ρ H d v) (hd : (x == ("__debug__" : Str)) = false := by decide) : DE X W (.Name x pos) (eC d) :=
  ⟨_, pe_glob hg hm r hd, fun φ ρ env M σ H Q e m h => h _ _ _ .refl m (hr φ ρ H)⟩
theorem da_nil : DA X W [] aNil := ⟨_, pa_nil, fun env M ds M' h => by cases h; rfl, fun φ ρ env M σ H Q e m h => h _ _ _ .refl m .nil⟩
theorem da_cons {a : Expr} {es : List Expr} {f : Ev} {g : EvL} (ha : DE X W a f) (hg : DA X W es g) (hs : starEach (a :: es) X.env = (false, eval a X.env) :: starEach es X.env := by rfl) : DA X W (a :: es) (aCons f g) := by
  obtain ⟨ta, pa, sa⟩ := ha
  obtain ⟨tg, pg, lg, sg⟩ := hg
  refine ⟨_, pa_cons pa pg hs, fun env M ds M' h => ?_, fun φ ρ env M σ H Q e m h => ?_⟩
  · unfold aCons at h
    cases h1 : f env M with
    | ok d M1 =>
      rw [h1] at h
      cases h2 : g env M1 with
      | ok ds2 M2 =>
        have h' : ((g env M1).bindL fun ds M => .ok (d :: ds) M) = .ok ds M' := h
        rw [h2] at h'
        cases h'
        simp [lg _ _ _ _ h2]
      | ex x M2 =>
        have h' : ((g env M1).bindL fun ds M => .ok (d :: ds) M) = .ok ds M' := h
        rw [h2] at h'
        cases h'
      | st =>
        have h' : ((g env M1).bindL fun ds M => .ok (d :: ds) M) = .ok ds M' := h
        rw [h2] at h'
        cases h'
    | ex x M1 => rw [h1] at h; cases h
    | st => rw [h1] at h; cases h
  · refine sa φ ρ env M σ H _ e m (Post.bindL h fun d M1 ρ1 H1 v a b c h1 => ?_)
    refine sg φ ρ1 env M1 σ H1 _ (e.ext a) b (PostL.bindL h1 fun ds M2 ρ2 H2 vs a2 b2 c2 h2 => ?_)
    exact h2 _ _ _ .refl b2 (.cons (c.ext a2) c2)
/-- a new tuple, known to the letter -/
def tTupF (t : TA) : TE := fun σ H Q => t σ H fun xs H1 => xs.length ≤ sizeLine ∧ ∀ p o, H1 p = none → o.dict = none → Q (.ref p) (upd H1 p (.frz o (.tup xs)))
theorem lay_tup {pins : List (Addr × Obj)} {σ : L2.St} {H : Hp} {s : Shared} {xs : List V} {us : List Value} {Q : VK} (I : Inv X pins σ H s) (r : Vals xs us) (z : xs.length ≤ sizeLine)
    (q : ∀ p o, H p = none → o.dict = none → Q (.ref p) (upd H p (.frz o (.tup xs)))) : EP X pins σ Q (.ref s.heap.objs.size) { s with heap := s.heap.push { cls := .type "tuple", data := .seq us.toArray } } := by
  have at_ : (s.heap.push { cls := .type "tuple", data := .seq us.toArray }).get? s.heap.objs.size = some { cls := .type "tuple", data := .seq us.toArray } := Heap.get?_push_size _ rfl
  have lay : ObjOk X.prog X.w (upd H s.heap.objs.size (.frz { cls := .type "tuple", data := .seq us.toArray } (.tup xs))) (s.heap.push { cls := .type "tuple", data := .seq us.toArray }) s.heap.objs.size (.frz { cls := .type "tuple", data := .seq us.toArray } (.tup xs)) :=
    ⟨at_, z, us, r, _, at_, rfl, _, rfl⟩
  exact ⟨.ref s.heap.objs.size, _, I.laid (t' := s.toks) (fun b u e => Heap.get?_push_of_some _ e) (Nat.le_refl _) lay, rfl, q _ _ (I.hok.fresh (Nat.le_refl _)) rfl⟩
theorem pe_tupF {es : List Expr} {t : TA} {x1} (h : PA X es t) : PE X (.Tuple es x1 pos) (tTupF t) := by
  refine ⟨fun pins s σ H Q I hq => wpAny_Tuple_spliced (thn (h.run pos pins s σ H _ I hq) ?_)⟩
  rintro us s1 ⟨xs, H1, I1, r, z, q⟩
  exact ⟨by rw [← r.length]; exact z, lay_tup I1 r z q⟩
theorem frz_tup {K : Kx} {ρ : List Addr} {H : Hp} {M : Mem} {p : Addr} {o : Obj} {ds : List D} {xs : List V} (m : MOk K ρ M H) (h : H p = none) (d : o.dict = none) (r : RDs K ρ H ds xs) : RD K ρ (upd H p (.frz o (.tup xs))) (.tup ds) (.ref p) :=
  .tup (.inl ⟨⟨o, upd_same, d⟩, m.fresh h⟩) (r.ext (.new h))
theorem de_tup {es : List Expr} {f : EvL} {x1} (h : DA X W es f) (hl : es.length ≤ sizeLine := by show _ ≤ 16777216; decide) : DE X W (.Tuple es x1 pos) (eTup f) := by
  obtain ⟨t, p, l, s⟩ := h
  refine ⟨_, pe_tupF p, fun φ ρ env M σ H Q e m h => ?_⟩
  unfold eTup at h
  cases hf : f env M with
  | ok ds M1 =>
    rw [hf] at h
    refine s φ ρ env M σ H _ e m ?_
    rw [hf]
    intro ρ1 H1 vs a b c
    exact ⟨by rw [← c.length, l _ _ _ _ hf]; exact hl, fun p o hp d => h _ _ _ (a.trans (.new hp)) (b.new hp) (frz_tup b hp d c)⟩
  | ex x M1 =>
    rw [hf] at h
    refine s φ ρ env M σ H _ e m ?_
    rw [hf]
    exact h
  | st => rw [hf] at h; exact h.elim
theorem de_lst {es : List Expr} {f : EvL} (h : DA X W es f) (hl : es.length ≤ sizeLine := by show _ ≤ 16777216; decide) : DE X W (.List es pos) (eLst f) := by
  obtain ⟨t, p, l, s⟩ := h
  refine ⟨_, pe_lst p, fun φ ρ env M σ H Q e m h => ?_⟩
  unfold eLst at h
  cases hf : f env M with
  | ok ds M1 =>
    rw [hf] at h
    refine s φ ρ env M σ H _ e m ?_
    rw [hf]
    intro ρ1 H1 vs a b c
    refine ⟨by rw [← c.length, l _ _ _ _ hf]; exact hl, fun p hp => ?_⟩
    have ex : Ext ρ1 H1 ρ1 (upd H1 p (.lst vs)) := .new hp
    exact h _ _ _ (a.trans ex) (b.new hp) (.lst upd_same (b.fresh hp) (c.ext ex))
  | ex x M1 =>
    rw [hf] at h
    refine s φ ρ env M σ H _ e m ?_
    rw [hf]
    exact h
  | st => rw [hf] at h; exact h.elim
theorem de_new {es : List Expr} {f : EvL} (h : DA X W es f) (hl : es.length ≤ sizeLine := by show _ ≤ 16777216; decide) : DE X W (.List es pos) (eNew f) := by
  obtain ⟨t, p, l, s⟩ := h
  refine ⟨_, pe_lst p, fun φ ρ env M σ H Q e m h => ?_⟩
  unfold eNew at h
  cases hf : f env M with
  | ok ds M1 =>
    rw [hf] at h
    refine s φ ρ env M σ H _ e m ?_
    rw [hf]
    intro ρ1 H1 vs a b c
    refine ⟨by rw [← c.length, l _ _ _ _ hf]; exact hl, fun p hp => ?_⟩
    have ex : Ext ρ1 H1 (ρ1 ++ [p]) (upd H1 p (.lst vs)) := .push hp
    refine h _ _ _ (a.trans ex) (b.push hp ⟨vs, rfl, c.ext ex⟩) (.ref ?_)
    rw [← b.len, List.getElem?_concat_length]
  | ex x M1 =>
    rw [hf] at h
    refine s φ ρ env M σ H _ e m ?_
    rw [hf]
    exact h
  | st => rw [hf] at h; exact h.elim
end

/-! ### operators -/
abbrev Op2 := D → D → Mem → Out
/-- an operation by values -/
def OpD (X : Cx) (W : WX) (f : Value → Value → Sem Value) (g : Op2) : Prop :=
  ∃ r, OpR X f r ∧ ∀ φ ρ M (σ : L2.St) H x y vx vy Q, MOk ⟨X.K, φ⟩ ρ M H → RD ⟨X.K, φ⟩ ρ H x vx → RD ⟨X.K, φ⟩ ρ H y vy → Post ⟨X.K, φ⟩ W ρ σ H (g x y M) Q → r vx vy H Q
def Out.or : Out → Out → Out
  | .st, r => r
  | r, _ => r
def gOr (g1 g2 : Op2) : Op2 := fun x y M => (g1 x y M).or (g2 x y M)
def gInt (c : Int → Int → Bool) (h : Int → Int → D) : Op2 := fun x y M => match x, y with
  | .int i, .int j => if c i j then .ok (h i j) M else .st
  | _, _ => .st
def gI (h : Int → Int → D) : Op2 := fun x y M => match x, y with
  | .int i, .int j => .ok (h i j) M
  | _, _ => .st
def eOp (g : Op2) (fa fb : Ev) : Ev := fun env M => (fa env M).bind fun x M => (fb env M).bind fun y M => g x y M
/-! data of None, bools, ints, texts, lists, tuples -/
mutual
def toP : D → Option PyData
  | .non => some .none
  | .bl b => some (.bool b)
  | .int i => some (.int i)
  | .str x => some (.str x)
  | .tup xs => (toPs xs).map .tuple
  | .itm xs => (toPs xs).map .tuple
  | .lst xs => (toPs xs).map .list
  | .fzl xs => (toPs xs).map .list
  | .ref _ => none
  | .glo _ => none
  | .ty _ => none
  | .inst _ _ => none
  | .dcv _ => none
def toPs : List D → Option (List PyData)
  | [] => some []
  | x :: xs => match toP x, toPs xs with
    | some p, some ps => some (p :: ps)
    | _, _ => none
end
def eqD (x y : D) : Option Bool := match toP x, toP y with
  | some d, some e => if SeqAt.shaped d && SeqAt.shaped e then some (PyData.eqv d e) else none
  | _, _ => none
/-- a list of the store as a value -/
def valD (M : Mem) : D → D
  | .ref l => match M[l]? with
    | some (.lst xs) => .lst xs
    | _ => .ref l
  | d => d
def gEq : Op2 := fun x y M => match eqD (valD M x) (valD M y) with
  | some b => .ok (.bl b) M
  | none => .st
def gNe : Op2 := fun x y M => match eqD (valD M x) (valD M y) with
  | some b => .ok (.bl (!b)) M
  | none => .st
def isNon : D → Bool
  | .non => true
  | _ => false
def gIsN : Op2 := fun x y M => match y with
  | .non => .ok (.bl (isNon x)) M
  | _ => .st
def gNotN : Op2 := fun x y M => match y with
  | .non => .ok (.bl (!isNon x)) M
  | _ => .st
section
variable {X : Cx} {W : WX} {pos : Pos} {a b c : Expr} {fa fb fc : Ev} {g g' : Op2}
theorem OpD.or {f : Value → Value → Sem Value} (h1 : OpD X W f g) (h2 : OpD X W f g') : OpD X W f (gOr g g') := by
  obtain ⟨r1, o1, s1⟩ := h1
  obtain ⟨r2, o2, s2⟩ := h2
  refine ⟨_, o1.or o2, fun φ ρ M σ H x y vx vy Q m rx ry h => ?_⟩
  unfold gOr at h
  cases hg : g x y M with
  | st =>
    rw [hg] at h
    exact .inr (s2 φ ρ M σ H x y vx vy Q m rx ry h)
  | ok d M1 =>
    rw [hg] at h
    exact .inl (s1 φ ρ M σ H x y vx vy Q m rx ry (by rw [hg]; exact h))
  | ex z M1 =>
    rw [hg] at h
    exact .inl (s1 φ ρ M σ H x y vx vy Q m rx ry (by rw [hg]; exact h))
theorem opd_int {f : Value → Value → Sem Value} {C : Int → Int → Prop} {h : Int → Int → V} {h' : Int → Int → D} {c : Int → Int → Bool} (o : OpR X f (rI C h)) (hc : ∀ i j, c i j = true → C i j) (hr : ∀ k ρ H i j, RD k ρ H (h' i j) (h i j)) : OpD X W f (gInt c h') := by
  refine ⟨_, o, fun φ ρ M σ H x y vx vy Q m rx ry h => ?_⟩
  cases rx with
  | int i =>
    cases ry with
    | int j =>
      have h : Post _ W ρ σ H (if c i j = true then .ok (h' i j) M else .st) Q := h
      by_cases z : c i j = true
      · rw [if_pos z] at h
        exact ⟨i, j, rfl, rfl, hc i j z, h _ _ _ .refl m (hr ..)⟩
      · rw [if_neg z] at h; exact h.elim
    | _ => exact h.elim
  | _ => cases ry <;> exact h.elim
theorem opd_i {f : Value → Value → Sem Value} {h : Int → Int → V} {h' : Int → Int → D} (o : OpR X f (rI0 h)) (hr : ∀ k ρ H i j, RD k ρ H (h' i j) (h i j)) : OpD X W f (gI h') := by
  refine ⟨_, o, fun φ ρ M σ H x y vx vy Q m rx ry h => ?_⟩
  cases rx with
  | int i =>
    cases ry with
    | int j => exact ⟨i, j, rfl, rfl, h _ _ _ .refl m (hr ..)⟩
    | _ => exact h.elim
  | _ => cases ry <;> exact h.elim
abbrev gAddI : Op2 := gI fun i j => .int (i + j)
abbrev gSubI : Op2 := gI fun i j => .int (i - j)
abbrev gLt : Op2 := gI fun i j => .bl (decide (i < j))
abbrev gLe : Op2 := gI fun i j => .bl (decide (i ≤ j))
abbrev gGt : Op2 := gI fun i j => .bl (decide (j < i))
abbrev gGe : Op2 := gI fun i j => .bl (decide (j ≤ i))
def cMulW (i j : Int) : Bool := decide (i.natAbs.log2 + j.natAbs.log2 < 1000000)
def cMul (i j : Int) : Bool := decide ((-(2 ^ 64) < i ∧ i < 2 ^ 64) ∨ (-(2 ^ 64) < j ∧ j < 2 ^ 64)) || cMulW i j
def cDivW (i j : Int) : Bool := decide (0 < j ∧ j.natAbs.log2 < 9000)
def cPos (i j : Int) : Bool := decide (0 < j)
def cPow (i j : Int) : Bool := decide (0 ≤ j ∧ j ≤ 1000000 ∧ i.natAbs < 2 ^ 64)
abbrev gMulI : Op2 := gInt cMul fun i j => .int (i * j)
abbrev gDivI : Op2 := gInt cDivW fun i j => .int (i / j)
abbrev gModI : Op2 := gInt cPos fun i j => .int (i % j)
abbrev gPowI : Op2 := gInt cPow fun i j => .int (i ^ j.toNat)
theorem opd_addI : OpD X W (binaryOp .Add) gAddI := opd_i op_add fun _ _ _ _ _ => .int _
theorem opd_subI : OpD X W (binaryOp .Sub) gSubI := opd_i op_sub fun _ _ _ _ _ => .int _
theorem opd_lt : OpD X W (compareOp .Lt) gLt := opd_i op_lt fun _ _ _ _ _ => .bl _
theorem opd_le : OpD X W (compareOp .LtE) gLe := opd_i op_le fun _ _ _ _ _ => .bl _
theorem opd_gt : OpD X W (compareOp .Gt) gGt := opd_i op_gt fun _ _ _ _ _ => .bl _
theorem opd_ge : OpD X W (compareOp .GtE) gGe := opd_i op_ge fun _ _ _ _ _ => .bl _
theorem op_mul2 : OpR X (binaryOp .Mult) (rI (fun i j => CMul i j ∨ CMulW i j) fun i j => .int (i * j)) := by
  intro pins s σ H x y
  intro v u Q I rx ry h
  obtain ⟨i, j, e1, e2, hc, q⟩ := h
  rcases hc with hc | hc
  · exact op_mul pins s σ H x y v u Q I rx ry ⟨i, j, e1, e2, hc, q⟩
  · exact op_mulW pins s σ H x y v u Q I rx ry ⟨i, j, e1, e2, hc, q⟩
theorem opd_mulI : OpD X W (binaryOp .Mult) gMulI := opd_int op_mul2 (fun i j h => by
  unfold cMul at h
  rcases Bool.or_eq_true_iff.1 h with h | h
  · exact .inl (of_decide_eq_true (p := (-(2 ^ 64) < i ∧ i < 2 ^ 64) ∨ (-(2 ^ 64) < j ∧ j < 2 ^ 64)) h)
  · exact .inr (of_decide_eq_true (p := i.natAbs.log2 + j.natAbs.log2 < 1000000) h)) fun _ _ _ _ _ => .int _
theorem opd_divI : OpD X W (binaryOp .FloorDiv) gDivI := opd_int op_fdivW (fun i j h => of_decide_eq_true (p := 0 < j ∧ j.natAbs.log2 < 9000) h) fun _ _ _ _ _ => .int _
theorem opd_modI : OpD X W (binaryOp .Mod) gModI := opd_int op_mod (fun i j h => of_decide_eq_true h) fun _ _ _ _ _ => .int _
theorem opd_powI : OpD X W (binaryOp .Pow) gPowI := opd_int op_pow (fun i j h => of_decide_eq_true (p := 0 ≤ j ∧ j ≤ 1000000 ∧ i.natAbs < 2 ^ 64) h) fun _ _ _ _ _ => .int _
mutual
theorem toP_dp {k : Kx} {ρ : List Addr} {H : Hp} : ∀ {d : D} {v : V} {p : PyData}, RD k ρ H d v → toP d = some p → Dp k.K H v p
  | .non, _, _, .non, e => by simp [toP] at e; subst e; exact .non
  | .bl b, _, _, .bl _, e => by simp [toP] at e; subst e; exact .bl b
  | .int b, _, _, .int _, e => by simp [toP] at e; subst e; exact .int b
  | .str b, _, _, .str _, e => by simp [toP] at e; subst e; exact .str b
  | .tup xs, _, _, .tup h r, e => by
    simp only [toP, Option.map_eq_some_iff] at e
    obtain ⟨ps, e, rfl⟩ := e
    exact .tup h.sq (toPs_dp r e)
  | .itm xs, _, _, .itm h n r, e => by
    simp only [toP, Option.map_eq_some_iff] at e
    obtain ⟨ps, e, rfl⟩ := e
    exact .tup (.inl (.inl h)) (toPs_dp r e)
  | .lst xs, _, _, .lst h n r, e => by
    simp only [toP, Option.map_eq_some_iff] at e
    obtain ⟨ps, e, rfl⟩ := e
    exact .lst (.inl (.inl h)) (toPs_dp r e)
  | .fzl xs, _, _, .fzl h r, e => by
    simp only [toP, Option.map_eq_some_iff] at e
    obtain ⟨ps, e, rfl⟩ := e
    exact .lst h.sq (toPs_dp r e)
  | .ref _, _, _, .ref _, e => by simp [toP] at e
  | .glo _, _, _, .glo, e => by simp [toP] at e
  | .ty _, _, _, .ty _, e => by simp [toP] at e
  | .inst _ _, _, _, .inst _ _ _, e => by simp [toP] at e
  | .dcv _, _, _, .dcv _ _ _, e => by simp [toP] at e
theorem toPs_dp {k : Kx} {ρ : List Addr} {H : Hp} : ∀ {d : List D} {v : List V} {p : List PyData}, RDs k ρ H d v → toPs d = some p → DpAll k.K H v p
  | [], _, _, .nil, e => by simp [toPs] at e; subst e; exact .nil
  | x :: xs, _, _, .cons h t, e => by
    simp only [toPs] at e
    split at e
    · rename_i h1 h2
      cases e
      exact .cons (toP_dp h h1) (toPs_dp t h2)
    · cases e
end
/-- a list of the store read as a value: for rules that only read -/
theorem valD_dp {k : Kx} {ρ : List Addr} {H : Hp} {M : Mem} {d : D} {v : V} {p : PyData} (m : MOk k ρ M H) (r : RD k ρ H d v) (e : toP (valD M d) = some p) : Dp k.K H v p := by
  cases r with
  | ref h =>
    rename_i l a
    have e' : toP (match M[l]? with | some (.lst xs) => .lst xs | _ => .ref l) = some p := e
    split at e'
    · rename_i xs hx
      simp only [toP, Option.map_eq_some_iff] at e'
      obtain ⟨ps, e', rfl⟩ := e'
      obtain ⟨u, hu, q⟩ := m.at_ _ _ _ hx h
      obtain ⟨ys, rfl, r⟩ := q
      exact .lst (.inl (.inl hu)) (toPs_dp r e')
    · simp [toP] at e'
  | non => exact toP_dp (k := k) (ρ := ρ) .non e
  | bl b => exact toP_dp (k := k) (ρ := ρ) (.bl b) e
  | int b => exact toP_dp (k := k) (ρ := ρ) (.int b) e
  | str b => exact toP_dp (k := k) (ρ := ρ) (.str b) e
  | tup h r => exact toP_dp (k := k) (ρ := ρ) (.tup h r) e
  | itm h n r => exact toP_dp (k := k) (ρ := ρ) (.itm h n r) e
  | lst h n r => exact toP_dp (k := k) (ρ := ρ) (.lst h n r) e
  | fzl h r => exact toP_dp (k := k) (ρ := ρ) (.fzl h r) e
  | glo => exact toP_dp (k := k) (ρ := ρ) .glo e
  | ty n => exact toP_dp (k := k) (ρ := ρ) (.ty n) e
  | inst h n r => exact toP_dp (k := k) (ρ := ρ) (.inst h n r) e
  | dcv h n r => exact toP_dp (k := k) (ρ := ρ) (.dcv h n r) e
theorem eqD_some {x y : D} {b : Bool} (h : eqD x y = some b) : ∃ d e, toP x = some d ∧ toP y = some e ∧ SeqAt.shaped d = true ∧ SeqAt.shaped e = true ∧ PyData.eqv d e = b := by
  unfold eqD at h
  split at h
  · rename_i d e h1 h2
    split at h
    · rename_i h3
      simp only [Bool.and_eq_true] at h3
      exact ⟨d, e, h1, h2, h3.1, h3.2, Option.some.inj h⟩
    · cases h
  · cases h
theorem opd_eq (hu : X.A.units + 64 < cLine) : OpD X W (compareOp .Eq) gEq := by
  refine ⟨_, op_eqD hu, fun φ ρ M σ H x y vx vy Q m rx ry h => ?_⟩
  unfold gEq at h
  split at h
  · rename_i b hb
    obtain ⟨d, e, h1, h2, h3, h4, rfl⟩ := eqD_some hb
    exact ⟨d, e, valD_dp m rx h1, valD_dp m ry h2, h3, h4, h _ _ _ .refl m (.bl _)⟩
  · exact h.elim
theorem opd_ne (hu : X.A.units + 64 < cLine) : OpD X W (compareOp .NotEq) gNe := by
  refine ⟨_, op_neD hu, fun φ ρ M σ H x y vx vy Q m rx ry h => ?_⟩
  unfold gNe at h
  split at h
  · rename_i b hb
    obtain ⟨d, e, h1, h2, h3, h4, rfl⟩ := eqD_some hb
    exact ⟨d, e, valD_dp m rx h1, valD_dp m ry h2, h3, h4, h _ _ _ .refl m (.bl _)⟩
  · exact h.elim
theorem isNon_eq {k : Kx} {ρ : List Addr} {H : Hp} {d : D} {v : V} (r : RD k ρ H d v) : decide (v = .non) = isNon d := by
  cases r <;> simp [isNon]
theorem opd_isN : OpD X W (compareOp .Is) gIsN := by
  refine ⟨_, op_isN, fun φ ρ M σ H x y vx vy Q m rx ry h => ?_⟩
  cases ry with
  | non => exact ⟨rfl, by rw [isNon_eq rx]; exact h _ _ _ .refl m (.bl _)⟩
  | _ => exact h.elim
theorem opd_notN : OpD X W (compareOp .IsNot) gNotN := by
  refine ⟨_, op_notN, fun φ ρ M σ H x y vx vy Q m rx ry h => ?_⟩
  cases ry with
  | non => exact ⟨rfl, by rw [isNon_eq rx]; exact h _ _ _ .refl m (.bl _)⟩
  | _ => exact h.elim

theorem de_op {op : Operator} (ho : OpD X W (binaryOp op) g) (ha : DE X W a fa) (hb : DE X W b fb) : DE X W (.BinOp a op b pos) (eOp g fa fb) := by
  obtain ⟨r, o, so⟩ := ho
  obtain ⟨ta, pa, sa⟩ := ha
  obtain ⟨tb, pb, sb⟩ := hb
  refine ⟨_, pe_op o pa pb, fun φ ρ env M σ H Q e m h => ?_⟩
  refine sa φ ρ env M σ H _ e m (Post.bind h fun d M1 ρ1 H1 v a1 b1 c1 h1 => ?_)
  refine sb φ ρ1 env M1 σ H1 _ (e.ext a1) b1 (Post.bind h1 fun d2 M2 ρ2 H2 v2 a2 b2 c2 h2 => ?_)
  exact so φ ρ2 M2 σ H2 d d2 v v2 Q b2 (c1.ext a2) c2 h2
theorem de_cmp {op : CmpOp} (ho : OpD X W (compareOp op) g) (ha : DE X W a fa) (hb : DE X W b fb) (hm : behindInMarks op b = false) : DE X W (.Compare a [op] [b] pos) (eOp g fa fb) := by
  obtain ⟨r, o, so⟩ := ho
  obtain ⟨ta, pa, sa⟩ := ha
  obtain ⟨tb, pb, sb⟩ := hb
  refine ⟨_, pe_cmpR o pa pb hm, fun φ ρ env M σ H Q e m h => ?_⟩
  refine sa φ ρ env M σ H _ e m (Post.bind h fun d M1 ρ1 H1 v a1 b1 c1 h1 => ?_)
  refine sb φ ρ1 env M1 σ H1 _ (e.ext a1) b1 (Post.bind h1 fun d2 M2 ρ2 H2 v2 a2 b2 c2 h2 => ?_)
  exact so φ ρ2 M2 σ H2 d d2 v v2 Q b2 (c1.ext a2) c2 h2
theorem PostT.post {k : Kx} {ρ : List Addr} {σ : L2.St} {H : Hp} {r : Out} {Q : Bool → Hp → Prop} (h : PostT k W ρ σ H r Q) : Post k W ρ σ H r (fun v H' => ∃ b, v = .bl b ∧ Q b H') := by
  cases r with
  | ok d M =>
    cases d with
    | bl b => exact fun ρ' H' v a m r => by cases r; exact ⟨b, rfl, h ρ' H' a m⟩
    | _ => exact h.elim
  | ex x M => exact h
  | st => exact h
theorem dt_cmp {op : CmpOp} (ho : OpD X W (compareOp op) g) (ha : DE X W a fa) (hb : DE X W b fb) (hm : behindInMarks op b = false) : DT X W (.Compare a [op] [b] pos) (eOp g fa fb) := by
  obtain ⟨r, o, so⟩ := ho
  obtain ⟨ta, pa, sa⟩ := ha
  obtain ⟨tb, pb, sb⟩ := hb
  refine ⟨_, pt_cmpR o pa pb hm, fun φ ρ env M σ H Q e m h => ?_⟩
  refine sa φ ρ env M σ H _ e m (Post.bind h.post fun d M1 ρ1 H1 v a1 b1 c1 h1 => ?_)
  refine sb φ ρ1 env M1 σ H1 _ (e.ext a1) b1 (Post.bind h1 fun d2 M2 ρ2 H2 v2 a2 b2 c2 h2 => ?_)
  exact so φ ρ2 M2 σ H2 d d2 v v2 _ b2 (c1.ext a2) c2 h2
/-- a test by the value, which is a bool -/
theorem dt_val (ha : DE X W a fa) (he : ∀ whole, isTrue a X.env whole = (do let v ← whole; standAt a.pos; holding [v] (truthy v)) := by intro _; rfl) : DT X W a fa := by
  obtain ⟨ta, pa, sa⟩ := ha
  exact ⟨_, pt_val pa he, fun φ ρ env M σ H Q e m h => sa φ ρ env M σ H _ e m h.post⟩
/-- a op b op' c -/
def eChain (g g' : Op2) (fa fb fc : Ev) : Ev := fun env M => (fa env M).bind fun x M => (fb env M).bind fun y M => (g x y M).bind fun z M => match z with
  | .bl true => (fc env M).bind fun w M => g' y w M
  | .bl false => .ok (.bl false) M
  | _ => .st
/-! ### not, and, or, if -/
def eNot (fa : Ev) : Ev := fun env M => (fa env M).bind fun x M => match x with
  | .bl b => .ok (.bl (!b)) M
  | _ => .st
def eAnd (fa fb : Ev) : Ev := fun env M => (fa env M).bind fun x M => match x with
  | .bl true => fb env M
  | .bl false => .ok (.bl false) M
  | _ => .st
def eOr (fa fb : Ev) : Ev := fun env M => (fa env M).bind fun x M => match x with
  | .bl true => .ok (.bl true) M
  | .bl false => fb env M
  | _ => .st
def eIf (ft fa fb : Ev) : Ev := fun env M => (ft env M).bind fun x M => match x with
  | .bl true => fa env M
  | .bl false => fb env M
  | _ => .st
theorem PostT.bind {k : Kx} {ρ : List Addr} {σ : L2.St} {H : Hp} {r : Out} {kk : D → Mem → Out} {Q : VK} {Q1 : Bool → Hp → Prop} (h : Post k W ρ σ H (r.bind kk) Q) (hb : ∀ d M, (∀ b, d ≠ .bl b) → kk d M = .st)
    (f : ∀ b M ρ' H', Ext ρ H ρ' H' → MOk k ρ' M H' → Post k W ρ' σ H' (kk (.bl b) M) Q → Q1 b H') : PostT k W ρ σ H r Q1 := by
  cases r with
  | ok d M =>
    cases d with
    | bl b => exact fun ρ' H' a m => f b M ρ' H' a m (Post.ext a h)
    | _ =>
      have h' : Post k W ρ σ H (kk _ M) Q := h
      rw [hb _ _ (by intro b z; cases z)] at h'
      exact h'.elim
  | ex x M => exact h
  | st => exact h
theorem PostT.bindT {k : Kx} {ρ : List Addr} {σ : L2.St} {H : Hp} {r : Out} {kk : D → Mem → Out} {Q : Bool → Hp → Prop} {Q1 : Bool → Hp → Prop} (h : PostT k W ρ σ H (r.bind kk) Q) (hb : ∀ d M, (∀ b, d ≠ .bl b) → kk d M = .st)
    (f : ∀ b M ρ' H', Ext ρ H ρ' H' → MOk k ρ' M H' → PostT k W ρ' σ H' (kk (.bl b) M) Q → Q1 b H') : PostT k W ρ σ H r Q1 := by
  cases r with
  | ok d M =>
    cases d with
    | bl b => exact fun ρ' H' a m => f b M ρ' H' a m (PostT.ext a h)
    | _ =>
      have h' : PostT k W ρ σ H (kk _ M) Q := h
      rw [hb _ _ (by intro b z; cases z)] at h'
      exact h'.elim
  | ex x M => exact h
  | st => exact h
theorem dt_not (ha : DT X W a fa) : DT X W (.UnaryOp .Not a pos) (eNot fa) := by
  obtain ⟨ta, pa, sa⟩ := ha
  refine ⟨_, pt_not pa, fun φ ρ env M σ H Q e m h => ?_⟩
  refine sa φ ρ env M σ H _ e m (PostT.bindT h (fun d M z => ?_) fun b M1 ρ1 H1 a1 b1 h1 => h1 _ _ .refl b1)
  cases d with
  | bl b => exact absurd rfl (z b)
  | _ => rfl
theorem de_not (ha : DE X W a fa) : DE X W (.UnaryOp .Not a pos) (eNot fa) := by
  obtain ⟨ta, pa, sa⟩ := ha
  refine ⟨_, pe_not pa, fun φ ρ env M σ H Q e m h => ?_⟩
  refine sa φ ρ env M σ H _ e m (Post.bind h fun d M1 ρ1 H1 v a1 b1 c1 h1 => ?_)
  cases c1 with
  | bl b => exact ⟨b, rfl, h1 _ _ _ .refl b1 (.bl _)⟩
  | _ => exact h1.elim
variable {rest : List Expr}
theorem dw_and1 (ha : DT X W a fa) : DW X W (.BoolOp .And [a] pos) fa := by
  obtain ⟨ta, pa, sa⟩ := ha
  exact ⟨_, pw_and1 pa, sa⟩
theorem dw_or1 (ha : DT X W a fa) : DW X W (.BoolOp .Or [a] pos) fa := by
  obtain ⟨ta, pa, sa⟩ := ha
  exact ⟨_, pw_or1 pa, sa⟩
theorem dw_and (ha : DT X W a fa) (hb : DW X W (.BoolOp .And (b :: rest) pos) fb) : DW X W (.BoolOp .And (a :: b :: rest) pos) (eAnd fa fb) := by
  obtain ⟨ta, pa, sa⟩ := ha
  obtain ⟨tb, pb, sb⟩ := hb
  refine ⟨_, pw_and pa pb, fun φ ρ env M σ H Q e m h => ?_⟩
  refine sa φ ρ env M σ H _ e m (PostT.bindT h (fun d M z => ?_) fun b M1 ρ1 H1 a1 b1 h1 => ?_)
  · cases d with
    | bl b => exact absurd rfl (z b)
    | _ => rfl
  · cases b with
    | true => exact iteT (sb φ ρ1 env M1 σ H1 Q (e.ext a1) b1 h1)
    | false => exact iteF (h1 _ _ .refl b1)
theorem dw_or (ha : DT X W a fa) (hb : DW X W (.BoolOp .Or (b :: rest) pos) fb) : DW X W (.BoolOp .Or (a :: b :: rest) pos) (eOr fa fb) := by
  obtain ⟨ta, pa, sa⟩ := ha
  obtain ⟨tb, pb, sb⟩ := hb
  refine ⟨_, pw_or pa pb, fun φ ρ env M σ H Q e m h => ?_⟩
  refine sa φ ρ env M σ H _ e m (PostT.bindT h (fun d M z => ?_) fun b M1 ρ1 H1 a1 b1 h1 => ?_)
  · cases d with
    | bl b => exact absurd rfl (z b)
    | _ => rfl
  · cases b with
    | false => exact iteF (sb φ ρ1 env M1 σ H1 Q (e.ext a1) b1 h1)
    | true => exact iteT (h1 _ _ .refl b1)
theorem DW.pt (h : DW X W a fa) : DT X W a fa := by
  obtain ⟨ta, pa, sa⟩ := h
  exact ⟨_, pa.pt, sa⟩
theorem de_one {op} (h : DE X W a fa) : DE X W (.BoolOp op [a] pos) fa := by
  obtain ⟨ta, pa, sa⟩ := h
  exact ⟨_, pe_one pa, sa⟩
theorem de_and (ha : DE X W a fa) (hb : DE X W (.BoolOp .And (b :: rest) pos) fb) : DE X W (.BoolOp .And (a :: b :: rest) pos) (eAnd fa fb) := by
  obtain ⟨ta, pa, sa⟩ := ha
  obtain ⟨tb, pb, sb⟩ := hb
  refine ⟨_, pe_and pa pb, fun φ ρ env M σ H Q e m h => ?_⟩
  refine sa φ ρ env M σ H _ e m (Post.bind h fun d M1 ρ1 H1 v a1 b1 c1 h1 => ?_)
  cases c1 with
  | bl b =>
    refine ⟨b, rfl, ?_⟩
    cases b with
    | true => exact iteT (sb φ ρ1 env M1 σ H1 Q (e.ext a1) b1 h1)
    | false => exact iteF (h1 _ _ _ .refl b1 (.bl _))
  | _ => exact h1.elim
theorem de_if {t : Expr} {ft : Ev} (ht : DT X W t ft) (ha : DE X W a fa) (hb : DE X W b fb) : DE X W (.IfExp t a b pos) (eIf ft fa fb) := by
  obtain ⟨tt, pt, st⟩ := ht
  obtain ⟨ta, pa, sa⟩ := ha
  obtain ⟨tb, pb, sb⟩ := hb
  refine ⟨_, pe_ifExp pt pa pb, fun φ ρ env M σ H Q e m h => ?_⟩
  refine st φ ρ env M σ H _ e m (PostT.bind h (fun d M z => ?_) fun b M1 ρ1 H1 a1 b1 h1 => ?_)
  · cases d with
    | bl b => exact absurd rfl (z b)
    | _ => rfl
  · cases b with
    | true => exact iteT (sa φ ρ1 env M1 σ H1 Q (e.ext a1) b1 h1)
    | false => exact iteF (sb φ ρ1 env M1 σ H1 Q (e.ext a1) b1 h1)
end
end DL

namespace DL
open PySem L2

/-! ### lists and tuples -/
def derefT : D → Option (List D)
  | .tup xs => some xs
  | _ => none
def gCatT : Op2 := fun x y M => match x, y with
  | .tup xs, .tup ys => if xs.length + ys.length ≤ sizeLine then .ok (.tup (xs ++ ys)) M else .st
  | _, _ => .st
def gCatL : Op2 := fun x y M => match derefW M x, derefW M y with
  | some xs, some ys => if xs.length + ys.length ≤ sizeLine then .ok (.lst (xs ++ ys)) M else .st
  | _, _ => .st
def gRepL : Op2 := fun x y M => match derefW M x, y with
  | some xs, .int k => if -(2 ^ 63) ≤ k ∧ k < 2 ^ 63 ∧ xs.length * k.toNat ≤ sizeLine then .ok (.lst (List.replicate k.toNat xs).flatten) M else .st
  | _, _ => .st
section
variable {K : Kx} {W : WX} {ρ ρ' ρ1 : List Addr} {σ : L2.St} {H H' H1 : Hp} {env : Env} {M : Mem} {p : Addr} {o u : HO}
theorem new_itm {ds : List D} {xs : List V} (m : MOk K ρ M H) (h : H p = none) (r : RDs K ρ H ds xs) : RD K ρ (upd H p (.tup xs)) (.itm ds) (.ref p) :=
  .itm upd_same (m.fresh h) (r.ext (.new h))
theorem new_lst {ds : List D} {xs : List V} (m : MOk K ρ M H) (h : H p = none) (r : RDs K ρ H ds xs) : RD K ρ (upd H p (.lst xs)) (.lst ds) (.ref p) :=
  .lst upd_same (m.fresh h) (r.ext (.new h))
theorem RDs.nil_iff {ds : List D} {vs : List V} (h : RDs K ρ H ds vs) : ds = [] ↔ vs = [] := by
  cases h <;> simp
theorem RDs.replicate {ds : List D} {vs : List V} (h : RDs K ρ H ds vs) (n : Nat) : RDs K ρ H (List.replicate n ds).flatten (List.replicate n vs).flatten := by
  induction n with
  | zero => exact .nil
  | succ n ih => simp only [List.replicate_succ, List.flatten_cons]; exact h.append ih
theorem atI_rd {ds : List D} {vs : List V} {i : Int} {d : D} (h : RDs K ρ H ds vs) (e : atI ds i = some d) : ∃ v, atI vs i = some v ∧ RD K ρ H d v := by
  unfold atI at e ⊢
  rw [← h.length]
  cases q : ixN ds.length i with
  | none => simp [q] at e
  | some j => rw [q] at e; exact h.get e
def cutD (xs : List D) (lo hi : Option Int) : List D := (xs.drop (HT.sIx xs.length 0 lo)).take (HT.sIx xs.length xs.length hi - HT.sIx xs.length 0 lo)
theorem cutD_rd {ds : List D} {vs : List V} {lo hi : Option Int} (h : RDs K ρ H ds vs) : RDs K ρ H (cutD ds lo hi) (cutV vs lo hi) := by
  unfold cutD cutV
  rw [← h.length]
  exact (h.drop _).take _
end
section
variable {X : Cx} {W : WX} {pos : Pos} {a b c : Expr} {fa fb fc : Ev} {g g' : Op2}
/-- t + u, new ones known to the letter -/
def rCatF (K : PySem.W.Frag) : R2 := fun x y H Q => ∃ a b xs ys, x = .ref a ∧ y = .ref b ∧ SqT K H a xs ∧ SqT K H b ys ∧ xs.length + ys.length ≤ sizeLine ∧
  (xs = [] → Q (.ref b) H) ∧ (ys = [] → Q (.ref a) H) ∧ ∀ p o, H p = none → o.dict = none → Q (.ref p) (upd H p (.frz o (.tup (xs ++ ys))))
theorem op_catF : OpR X (binaryOp .Add) (rCatF X.K) := by
  intro pins s σ H x y
  intro v u Q I rx ry h
  obtain ⟨a, b, xs, ys, e1, e2, ha, hb, hz, q0, q1, q2⟩ := h
  subst e1
  subst e2
  cases rx
  cases ry
  obtain ⟨i1, r1, p1, _⟩ := I.tuple ha
  obtain ⟨i2, r2, p2, _⟩ := I.tuple hb
  by_cases hx : xs = []
  · subst hx
    cases r1
    exact cat_tup0 p1 p2 ⟨V.ref b, H, I, rfl, q0 rfl⟩
  · refine HT.cat_tup p1 p2 (fun z => hx (r1.nil_iff.mp z)) (fun z => ⟨.ref a, H, I, rfl, q1 (r2.nil_iff.mp z)⟩) (fun z => ?_) (by rw [← r1.length, ← r2.length]; exact hz)
    exact lay_tup I (r1.append r2) (by rw [List.length_append]; exact hz) q2
theorem opd_catT : OpD X W (binaryOp .Add) gCatT := by
  refine ⟨_, op_catF, fun φ ρ M σ H x y vx vy Q m rx ry h => ?_⟩
  cases rx with
  | @tup ds p xs hx r =>
    cases ry with
    | @tup es q ys hy r2 =>
      have h : Post _ W ρ σ H (if ds.length + es.length ≤ sizeLine then .ok (.tup (ds ++ es)) M else .st) Q := h
      by_cases z : ds.length + es.length ≤ sizeLine
      · rw [if_pos z] at h
        refine ⟨_, _, xs, ys, rfl, rfl, hx.sq, hy.sq, by rw [← r.length, ← r2.length]; exact z, fun e => ?_, fun e2 => ?_, fun p o hp d => ?_⟩
        · have e' := r.nil_iff.mpr e
          subst e'
          exact h _ _ _ .refl m (.tup hy r2)
        · have e' := r2.nil_iff.mpr e2
          subst e'
          rw [List.append_nil] at h
          exact h _ _ _ .refl m (.tup hx r)
        · exact h _ _ _ (.new hp) (m.new hp) (frz_tup m hp d (r.append r2))
      · rw [if_neg z] at h; exact h.elim
    | _ => exact h.elim
  | _ => cases ry <;> exact h.elim
theorem opd_catL : OpD X W (binaryOp .Add) gCatL := by
  refine ⟨_, op_cat, fun φ ρ M σ H x y vx vy Q m rx ry h => ?_⟩
  unfold gCatL at h
  split at h
  · rename_i xs ys h1 h2
    split at h
    · rename_i z
      obtain ⟨a, vs, rfl, ha, r⟩ := derefW_ok m rx h1
      obtain ⟨b, ws, rfl, hb, r2⟩ := derefW_ok m ry h2
      exact ⟨_, _, vs, ws, rfl, rfl, ha, hb, by rw [← r.length, ← r2.length]; exact z, fun p hp => h _ _ _ (.new hp) (m.new hp) (new_lst m hp (r.append r2))⟩
    · exact h.elim
  · exact h.elim
theorem opd_repL : OpD X W (binaryOp .Mult) gRepL := by
  refine ⟨_, op_rep, fun φ ρ M σ H x y vx vy Q m rx ry h => ?_⟩
  unfold gRepL at h
  split at h
  · rename_i xs k h1
    split at h
    · rename_i z
      obtain ⟨a, vs, rfl, ha, r⟩ := derefW_ok m rx h1
      cases ry
      exact ⟨_, k, vs, rfl, rfl, ha, z.1, z.2.1, by rw [← r.length]; exact z.2.2, fun p hp => h _ _ _ (.new hp) (m.new hp) (new_lst m hp (r.replicate _))⟩
    · exact h.elim
  · exact h.elim
abbrev gAdd : Op2 := gOr gAddI (gOr gCatT gCatL)
abbrev gMul : Op2 := gOr gMulI gRepL
theorem opd_add : OpD X W (binaryOp .Add) gAdd := opd_addI.or (opd_catT.or opd_catL)
theorem opd_mul : OpD X W (binaryOp .Mult) gMul := opd_mulI.or opd_repL
def boolOf : D → Option Bool
  | .bl b => some b
  | _ => none
/-- is, is not of bools -/
def gIsB : Op2 := fun x y M => match x, y with
  | .bl a, .bl b => .ok (.bl (decide (a = b))) M
  | _, _ => .st
def gNotB : Op2 := fun x y M => match x, y with
  | .bl a, .bl b => .ok (.bl (!decide (a = b))) M
  | _, _ => .st
theorem opd_isB : OpD X W (compareOp .Is) gIsB := by
  refine ⟨_, op_isBl, fun φ ρ M σ H x y vx vy Q m rx ry h => ?_⟩
  cases rx with
  | bl i => cases ry with
    | bl j => exact ⟨i, j, rfl, rfl, h _ _ _ .refl m (.bl _)⟩
    | _ => exact h.elim
  | _ => cases ry <;> exact h.elim
theorem opd_notB : OpD X W (compareOp .IsNot) gNotB := by
  refine ⟨_, op_notBl, fun φ ρ M σ H x y vx vy Q m rx ry h => ?_⟩
  cases rx with
  | bl i => cases ry with
    | bl j => exact ⟨i, j, rfl, rfl, h _ _ _ .refl m (.bl _)⟩
    | _ => exact h.elim
  | _ => cases ry <;> exact h.elim
abbrev gIs : Op2 := gOr gIsN gIsB
abbrev gIsNot : Op2 := gOr gNotN gNotB
theorem opd_is : OpD X W (compareOp .Is) gIs := opd_isN.or opd_isB
theorem opd_isnot : OpD X W (compareOp .IsNot) gIsNot := opd_notN.or opd_notB

/-! ### subscripts -/
def seqD (M : Mem) : D → Option (List D)
  | .tup xs => some xs
  | .itm xs => some xs
  | d => derefL M d
def gIx : Op2 := fun x y M => match seqD M x, y with
  | some xs, .int i => match atI xs i with
    | some d => .ok d M
    | none => .st
  | _, _ => .st
theorem seqD_ok {k : Kx} {ρ : List Addr} {H : Hp} {M : Mem} {d : D} {v : V} {ds : List D} (m : MOk k ρ M H) (r : RD k ρ H d v) (e : seqD M d = some ds) :
    ∃ a xs, v = .ref a ∧ (SqL k.K H a xs ∨ SqT k.K H a xs) ∧ RDs k ρ H ds xs := by
  cases r with
  | tup h r => cases e; exact ⟨_, _, rfl, .inr h.sq, r⟩
  | itm h n r => cases e; exact ⟨_, _, rfl, .inr (.inl (.inl h)), r⟩
  | ref h =>
    obtain ⟨a, xs, e1, s, r⟩ := derefL_ok m (.ref h) e
    exact ⟨a, xs, e1, .inl s, r⟩
  | lst h n r =>
    obtain ⟨a, xs, e1, s, r⟩ := derefL_ok m (.lst h n r) e
    exact ⟨a, xs, e1, .inl s, r⟩
  | fzl h r =>
    obtain ⟨a, xs, e1, s, r⟩ := derefL_ok m (.fzl h r) e
    exact ⟨a, xs, e1, .inl s, r⟩
  | _ => cases e
theorem de_ix (ha : DE X W a fa) (hb : DE X W b fb) (hs : PlainIx b := by exact fun _ _ => rfl) : DE X W (.Subscript a b pos) (eOp gIx fa fb) := by
  obtain ⟨ta, pa, sa⟩ := ha
  obtain ⟨tb, pb, sb⟩ := hb
  refine ⟨_, pe_ix (ix_list.or ix_tup) pa pb hs, fun φ ρ env M σ H Q e m h => ?_⟩
  refine sa φ ρ env M σ H _ e m (Post.bind h fun d M1 ρ1 H1 v a1 b1 c1 h1 => ?_)
  refine sb φ ρ1 env M1 σ H1 _ (e.ext a1) b1 (Post.bind h1 fun d2 M2 ρ2 H2 v2 a2 b2 c2 h2 => ?_)
  unfold gIx at h2
  split at h2
  · rename_i xs i hx
    obtain ⟨p, vs, rfl, sq, r⟩ := seqD_ok b2 (c1.ext a2) hx
    cases c2
    split at h2
    · rename_i dd hd
      obtain ⟨w, hw, rw'⟩ := atI_rd r hd
      rcases sq with sq | sq
      · exact .inl ⟨p, vs, i, w, rfl, rfl, sq, hw, h2 _ _ _ .refl b2 rw'⟩
      · exact .inr ⟨p, vs, i, w, rfl, rfl, sq, hw, h2 _ _ _ .refl b2 rw'⟩
    · exact h2.elim
  · exact h2.elim
/-- a bound of a slice -/
abbrev EvO := Env → Mem → Out
def optI : D → Option (Option Int)
  | .non => some none
  | .int i => some (some i)
  | _ => none
def DO (X : Cx) (W : WX) (e : Option Expr) (f : EvO) : Prop := ∃ t, PO X e t ∧ (∀ env M d M', f env M = .ok d M' → ∃ o, optI d = some o) ∧ ∀ φ ρ env M σ H Q, RE ⟨X.K, φ⟩ ρ H env σ → MOk ⟨X.K, φ⟩ ρ M H →
  Post ⟨X.K, φ⟩ W ρ σ H (f env M) (fun v H' => (v = .non ∧ Q none H') ∨ ∃ i, v = .int i ∧ Q (some i) H') → t σ H Q
def oNone : EvO := fun _ M => .ok .non M
theorem do_none : DO X W none oNone := by
  refine ⟨_, po_none, fun env M d M' h => by cases h; exact ⟨_, rfl⟩, fun φ ρ env M σ H Q e m h => ?_⟩
  rcases h _ _ _ .refl m .non with ⟨_, q⟩ | ⟨i, z, _⟩
  · exact q
  · cases z
def toI (d : D) (M : Mem) : Out := match d with
  | .int i => .ok (.int i) M
  | _ => .st
def oSome (f : Ev) : EvO := fun env M => (f env M).bind toI
theorem do_some (ha : DE X W a fa) : DO X W (some a) (oSome fa) := by
  obtain ⟨ta, pa, sa⟩ := ha
  refine ⟨_, po_some pa, fun env M d M' h => ?_, fun φ ρ env M σ H Q e m h => ?_⟩
  · unfold oSome at h
    cases hf : fa env M with
    | ok d1 M1 =>
      rw [hf] at h
      have h' : toI d1 M1 = .ok d M' := h
      unfold toI at h'
      split at h'
      · cases h'; exact ⟨_, rfl⟩
      · cases h'
    | ex x M1 => rw [hf] at h; cases h
    | st => rw [hf] at h; cases h
  · refine sa φ ρ env M σ H _ e m (Post.bind h fun d M1 ρ1 H1 v a1 b1 c1 h1 => ?_)
    cases c1 with
    | int i =>
      rcases h1 _ _ _ .refl b1 (.int i) with ⟨z, _⟩ | ⟨j, z, q⟩
      · cases z
      · cases z; exact ⟨i, rfl, q⟩
    | _ => exact h1.elim
def slD (x l h : D) (M : Mem) : Out := match optI l, optI h with
  | some lo, some hi => match derefT x, derefL M x with
    | some xs, _ => .ok (.tup (cutD xs lo hi)) M
    | none, some xs => .ok (.lst (cutD xs lo hi)) M
    | none, none => .st
  | _, _ => .st
def eSl (fa : Ev) (fl fh : EvO) : Ev := fun env M => (fa env M).bind fun x M => (fl env M).bind fun l M => (fh env M).bind fun h M => slD x l h M
theorem cut_whole {ds : List D} {lo hi : Option Int} (h : HT.sIx ds.length 0 lo = 0 ∧ HT.sIx ds.length ds.length hi = ds.length) : cutD ds lo hi = ds := by
  unfold cutD
  rw [h.1, h.2]
  simp
theorem Post.bindE {k : Kx} {ρ : List Addr} {σ : L2.St} {H : Hp} {r : Out} {kk : D → Mem → Out} {Q Q1 : VK} (h : Post k W ρ σ H (r.bind kk) Q)
    (f : ∀ d M ρ' H' v, r = .ok d M → Ext ρ H ρ' H' → MOk k ρ' M H' → RD k ρ' H' d v → Post k W ρ' σ H' (kk d M) Q → Q1 v H') : Post k W ρ σ H r Q1 := by
  cases r with
  | ok d M => exact fun ρ' H' v a b c => f d M ρ' H' v rfl a b c (Post.ext a h)
  | ex x M => exact h
  | st => exact h
theorem opt_way {k : Kx} {ρ : List Addr} {H : Hp} {d : D} {v : V} {o : Option Int} {R : Option Int → Hp → Prop} (r : RD k ρ H d v) (e : optI d = some o) (q : R o H) : (v = .non ∧ R none H) ∨ ∃ i, v = .int i ∧ R (some i) H := by
  cases r with
  | non => cases e; exact .inl ⟨rfl, q⟩
  | int i => cases e; exact .inr ⟨i, rfl, q⟩
  | _ => cases e
def rSlF (K : PySem.W.Frag) : V → Option Int → Option Int → Hp → VK → Prop := fun x lo hi H Q => ∃ a xs, x = .ref a ∧ SqT K H a xs ∧
  (HT.sIx xs.length 0 lo = 0 ∧ HT.sIx xs.length xs.length hi = xs.length → Q (.ref a) H) ∧ ∀ p o, H p = none → o.dict = none → Q (.ref p) (upd H p (.frz o (.tup (cutV xs lo hi))))
theorem sl_tupF : SlR X (rSlF X.K) := by
  intro pins s σ H x v vl vu
  intro lo hi sl Q I rx hs pl pu h
  obtain ⟨a, xs, e, hx, q1, q2⟩ := h
  subst e
  by_cases hw : (HT.sIx xs.length 0 lo = 0) ∧ (HT.sIx xs.length xs.length hi = xs.length)
  · exact sl_tupA pins s σ H _ v vl vu lo hi sl Q I rx hs pl pu ⟨a, xs, rfl, hx, q1, fun z => absurd hw z⟩
  · cases rx
    obtain ⟨its, r, ht, hz⟩ := Inv.tuple I hx
    have hl : its.toArray.size = xs.length := by simp [r.length]
    refine ⟨"tuple", _, PyProof.Rows.slot_tuple_getitem.lookup, ht.typeIs, HT.getItem_tuple_cut ht hs pl pu (by rw [hl]; exact hw) ?_ (by rw [hl]; exact hz)⟩
    rw [hl]
    exact lay_tup I ((r.drop (HT.sIx xs.length 0 lo)).take (HT.sIx xs.length xs.length hi - HT.sIx xs.length 0 lo)) (Nat.le_trans (cutV_length xs lo hi) hz) q2
theorem de_sl {lo hi : Option Expr} {fl fh : EvO} {p2 : Pos} (ha : DE X W a fa) (hl : DO X W lo fl) (hh : DO X W hi fh) : DE X W (.Subscript a (.Slice lo hi none p2) pos) (eSl fa fl fh) := by
  obtain ⟨ta, pa, sa⟩ := ha
  obtain ⟨tl, pl, ol, sl⟩ := hl
  obtain ⟨th, ph, oh, sh⟩ := hh
  refine ⟨_, pe_slice (sl_list.or sl_tupF) pa pl ph, fun φ ρ env M σ H Q e m h => ?_⟩
  refine sa φ ρ env M σ H _ e m (Post.bind h fun d M1 ρ1 H1 v a1 b1 c1 h1 => ?_)
  refine sl φ ρ1 env M1 σ H1 _ (e.ext a1) b1 (Post.bindE h1 fun d2 M2 ρ2 H2 v2 e2 a2 b2 c2 h2 => ?_)
  obtain ⟨lo', hlo⟩ := ol _ _ _ _ e2
  refine opt_way (R := fun l H2 => th σ H2 fun u H3 => rSlL X.K v l u H3 Q ∨ rSlF X.K v l u H3 Q) c2 hlo ?_
  refine sh φ ρ2 env M2 σ H2 _ ((e.ext a1).ext a2) b2 (Post.bindE h2 fun d3 M3 ρ3 H3 v3 e3 a3 b3 c3 h3 => ?_)
  obtain ⟨hi', hhi⟩ := oh _ _ _ _ e3
  refine opt_way (R := fun u H3 => rSlL X.K v lo' u H3 Q ∨ rSlF X.K v lo' u H3 Q) c3 hhi ?_
  unfold slD at h3
  rw [hlo, hhi] at h3
  have h4 : Post ⟨X.K, φ⟩ W ρ3 σ H3 (match derefT d, derefL M3 d with
    | some xs, _ => .ok (.tup (cutD xs lo' hi')) M3
    | none, some xs => .ok (.lst (cutD xs lo' hi')) M3
    | none, none => .st) Q := h3
  have c4 := c1.ext (a2.trans a3)
  split at h4
  · rename_i xs _ hx
    cases c4 with
    | tup hh r =>
      cases hx
      refine .inr ⟨_, _, rfl, hh.sq, fun z => ?_, fun p o hp d => h4 _ _ _ (.new hp) (b3.new hp) (frz_tup b3 hp d (cutD_rd r))⟩
      rw [← r.length] at z
      rw [cut_whole z] at h4
      exact h4 _ _ _ .refl b3 (.tup hh r)
    | _ => cases hx
  · rename_i xs hx hl
    obtain ⟨p, vs, rfl, sq, r⟩ := derefL_ok b3 c4 hl
    exact .inl ⟨p, vs, rfl, sq, fun q hq => h4 _ _ _ (.new hq) (b3.new hq) (new_lst b3 hq (cutD_rd r))⟩
  · exact h4.elim
/-- xs[::-1] -/
def revD (d : D) (M : Mem) : Out := match derefL M d with
  | some xs => .ok (.lst xs.reverse) M
  | none => .st
def eRev (fa : Ev) : Ev := fun env M => (fa env M).bind revD
/-- -a -/
def negD (d : D) (M : Mem) : Out := match d with
  | .int i => .ok (.int (-i)) M
  | _ => .st
def eNeg (fa : Ev) : Ev := fun env M => (fa env M).bind negD
theorem de_neg (ha : DE X W a fa) : DE X W (.UnaryOp .USub a pos) (eNeg fa) := by
  obtain ⟨ta, pa, sa⟩ := ha
  refine ⟨_, pe_un un_neg pa, fun φ ρ env M σ H Q e m h => ?_⟩
  refine sa φ ρ env M σ H _ e m (Post.bind h fun d M1 ρ1 H1 v a1 b1 c1 h1 => ?_)
  cases c1 with
  | int i => exact ⟨i, rfl, h1 _ _ _ .refl b1 (.int _)⟩
  | _ => exact h1.elim

/-! ### built-in functions -/
abbrev OpN := List D → Mem → Out
def CallD (X : Cx) (W : WX) (f : Value) (g : OpN) : Prop :=
  ∃ r, CallR X f r ∧ ∀ φ ρ M (σ : L2.St) H xs vs Q, MOk ⟨X.K, φ⟩ ρ M H → RDs ⟨X.K, φ⟩ ρ H xs vs → Post ⟨X.K, φ⟩ W ρ σ H (g xs M) Q → r vs H Q
def gnOr (g1 g2 : OpN) : OpN := fun xs M => (g1 xs M).or (g2 xs M)
theorem CallR.or {f : Value} {r r' : List V → Hp → VK → Prop} (h : CallR X f r) (h' : CallR X f r') :
    CallR X f (fun xs H Q => r xs H Q ∨ r' xs H Q) := by
  intro pins s σ H xs us Q I rx q
  rcases q with q | q
  · exact h pins s σ H xs us Q I rx q
  · exact h' pins s σ H xs us Q I rx q
theorem CallD.or {f : Value} {g g' : OpN} (h1 : CallD X W f g) (h2 : CallD X W f g') : CallD X W f (gnOr g g') := by
  obtain ⟨r1, o1, s1⟩ := h1
  obtain ⟨r2, o2, s2⟩ := h2
  refine ⟨_, CallR.or o1 o2, fun φ ρ M σ H xs vs Q m rx h => ?_⟩
  unfold gnOr at h
  cases hg : g xs M with
  | st =>
    rw [hg] at h
    exact .inr (s2 φ ρ M σ H xs vs Q m rx h)
  | ok d M1 =>
    rw [hg] at h
    exact .inl (s1 φ ρ M σ H xs vs Q m rx (by rw [hg]; exact h))
  | ex z M1 =>
    rw [hg] at h
    exact .inl (s1 φ ρ M σ H xs vs Q m rx (by rw [hg]; exact h))
def eCall (g : OpN) (f : EvL) : Ev := fun env M => (f env M).bind g
variable {es : List Expr} {f : EvL} {x : Str} {p : Pos}
theorem de_callB {id : String} {g : OpN} (hc : CallD X W (.builtin id) g) (hg : Gl X x) (hm : X.mg x = none) (hv : bootBuiltins x = some (.builtin id)) (ha : DA X W (a :: es) f) (hn : x ≠ "__name__" := by decide) (hdb : (x == ("__debug__" : Str)) = false := by decide)
    (he : starEach (a :: es) X.env = (false, eval a X.env) :: starEach es X.env := by rfl) (hpl : (backTo pos (starEach es X.env)).any (·.1) = false := by rfl) :
    DE X W (.Call (.Name x p) (a :: es) [] pos) (eCall g f) := by
  obtain ⟨r, o, so⟩ := hc
  obtain ⟨ta, pa, la, sa⟩ := ha
  refine ⟨_, pe_callB o hg hm hv pa hn hdb he hpl, fun φ ρ env M σ H Q e m h => ?_⟩
  exact sa φ ρ env M σ H _ e m (PostL.bind h fun d M1 ρ1 H1 v a1 b1 c1 h1 => so φ ρ1 M1 σ H1 d v Q b1 c1 h1)
theorem de_callTy {T : String} {g : OpN} (hc : CallD X W (.type T) g) (hg : Gl X x) (hm : X.mg x = none) (hv : bootBuiltins x = some (.type T)) (ha : DA X W (a :: es) f) (hn : x ≠ "__name__" := by decide) (hdb : (x == ("__debug__" : Str)) = false := by decide)
    (he : starEach (a :: es) X.env = (false, eval a X.env) :: starEach es X.env := by rfl) (hpl : (backTo pos (starEach es X.env)).any (·.1) = false := by rfl) :
    DE X W (.Call (.Name x p) (a :: es) [] pos) (eCall g f) := by
  obtain ⟨r, o, so⟩ := hc
  obtain ⟨ta, pa, la, sa⟩ := ha
  refine ⟨_, pe_callTy o hg hm hv pa hn hdb he hpl, fun φ ρ env M σ H Q e m h => ?_⟩
  exact sa φ ρ env M σ H _ e m (PostL.bind h fun d M1 ρ1 H1 v a1 b1 c1 h1 => so φ ρ1 M1 σ H1 d v Q b1 c1 h1)
end
end DL

namespace DL
open PySem L2

/-! ### numbers: abs, min, max, int, sum -/
def nAbs : OpN := fun xs M => match xs with
  | [.int i] => .ok (.int (if i < 0 then -i else i)) M
  | _ => .st
def nMax2 : OpN := fun xs M => match xs with
  | [.int i, .int j] => .ok (.int (if j > i then j else i)) M
  | _ => .st
def nMin2 : OpN := fun xs M => match xs with
  | [.int i, .int j] => .ok (.int (if j < i then j else i)) M
  | _ => .st
def nInt : OpN := fun xs M => match xs with
  | [.int i] => .ok (.int i) M
  | [.bl b] => .ok (.int (if b then 1 else 0)) M
  | _ => .st
def intsD : List D → Option (List Int)
  | [] => some []
  | .int i :: r => (intsD r).map (i :: ·)
  | _ => none
def boolsD : List D → Option (List Bool)
  | [] => some []
  | .bl i :: r => (boolsD r).map (i :: ·)
  | _ => none
def readL (M : Mem) (xs : List D) : Option (List D) := match xs with
  | [d] => derefL M d
  | _ => none
def nSum : OpN := fun xs M => match (readL M xs).bind intsD with
  | some ns => .ok (.int ns.sum) M
  | none => .st
def maxL : List Int → Int
  | [] => 0
  | [x] => x
  | x :: r => max x (maxL r)
def minL : List Int → Int
  | [] => 0
  | [x] => x
  | x :: r => min x (minL r)
def nMax : OpN := fun xs M => match (readL M xs).bind intsD with
  | some (x :: r) => .ok (.int (maxL (x :: r))) M
  | _ => .st
def nMin : OpN := fun xs M => match (readL M xs).bind intsD with
  | some (x :: r) => .ok (.int (minL (x :: r))) M
  | _ => .st
def nAny : OpN := fun xs M => match (readL M xs).bind boolsD with
  | some bs => .ok (.bl (bs.any id)) M
  | none => .st
def nAll : OpN := fun xs M => match (readL M xs).bind boolsD with
  | some bs => .ok (.bl (bs.all id)) M
  | none => .st
def nLen : OpN := fun xs M => match xs with
  | [.str x] => if x.length ≤ sizeLine then .ok (.int x.length) M else .st
  | [d] => match seqD M d with
    | some ds => .ok (.int ds.length) M
    | none => .st
  | _ => .st
/-- tuple(xs), list(xs) -/
def nTup : OpN := fun xs M => match xs with
  | [.tup ds] => .ok (.tup ds) M
  | [d] => match derefL M d with
    | some ds => .ok (.tup ds) M
    | none => .st
  | _ => .st
def nList : OpN := fun xs M => match xs with
  | [d] => match seqD M d with
    | some ds => .ok (.lst ds) M
    | none => .st
  | _ => .st
section
variable {K : Kx} {ρ : List Addr} {H : Hp} {M : Mem}
theorem intsD_ok : ∀ {ds : List D} {vs : List V} {ns : List Int}, RDs K ρ H ds vs → intsD ds = some ns → vs = ns.map V.int
  | [], _, _, .nil, e => by cases e; rfl
  | d :: ds, _, ns, .cons h t, e => by
    cases h with
    | int i =>
      simp only [intsD, Option.map_eq_some_iff] at e
      obtain ⟨ms, e1, rfl⟩ := e
      rw [List.map_cons, intsD_ok t e1]
    | _ => cases e
theorem boolsD_ok : ∀ {ds : List D} {vs : List V} {ns : List Bool}, RDs K ρ H ds vs → boolsD ds = some ns → vs = ns.map V.bl
  | [], _, _, .nil, e => by cases e; rfl
  | d :: ds, _, ns, .cons h t, e => by
    cases h with
    | bl i =>
      simp only [boolsD, Option.map_eq_some_iff] at e
      obtain ⟨ms, e1, rfl⟩ := e
      rw [List.map_cons, boolsD_ok t e1]
    | _ => cases e
theorem RDs.one {d : D} {vs : List V} (h : RDs K ρ H [d] vs) : ∃ v, vs = [v] ∧ RD K ρ H d v := by
  cases h with | cons a b => cases b; exact ⟨_, rfl, a⟩
theorem RDs.two {d e : D} {vs : List V} (h : RDs K ρ H [d, e] vs) : ∃ v w, vs = [v, w] ∧ RD K ρ H d v ∧ RD K ρ H e w := by
  cases h with | cons a b => cases b with | cons b c => cases c; exact ⟨_, _, rfl, a, b⟩
theorem readL_ok {xs : List D} {vs : List V} {ds : List D} (m : MOk K ρ M H) (r : RDs K ρ H xs vs) (e : readL M xs = some ds) : ∃ a ys, vs = [.ref a] ∧ SqL K.K H a ys ∧ RDs K ρ H ds ys := by
  unfold readL at e
  split at e
  · obtain ⟨v, rfl, rd⟩ := r.one
    obtain ⟨a, ys, rfl, s, r⟩ := derefL_ok m rd e
    exact ⟨a, ys, rfl, s, r⟩
  · cases e
theorem readI_ok {xs : List D} {vs : List V} {ns : List Int} (m : MOk K ρ M H) (r : RDs K ρ H xs vs) (e : (readL M xs).bind intsD = some ns) : ∃ a, vs = [.ref a] ∧ SqL K.K H a (ns.map V.int) := by
  obtain ⟨ds, e1, e2⟩ := Option.bind_eq_some_iff.mp e
  obtain ⟨a, ys, rfl, s, r⟩ := readL_ok m r e1
  rw [intsD_ok r e2] at s
  exact ⟨a, rfl, s⟩
theorem readB_ok {xs : List D} {vs : List V} {ns : List Bool} (m : MOk K ρ M H) (r : RDs K ρ H xs vs) (e : (readL M xs).bind boolsD = some ns) : ∃ a, vs = [.ref a] ∧ SqL K.K H a (ns.map V.bl) := by
  obtain ⟨ds, e1, e2⟩ := Option.bind_eq_some_iff.mp e
  obtain ⟨a, ys, rfl, s, r⟩ := readL_ok m r e1
  rw [boolsD_ok r e2] at s
  exact ⟨a, rfl, s⟩
end
section
variable {X : Cx} {W : WX}
theorem cd_abs : CallD X W (.builtin "abs") nAbs := by
  refine ⟨_, call_abs, fun φ ρ M σ H xs vs Q m r h => ?_⟩
  unfold nAbs at h
  split at h
  · obtain ⟨v, rfl, rd⟩ := r.one
    cases rd
    exact ⟨_, rfl, h _ _ _ .refl m (.int _)⟩
  · exact h.elim
theorem cd_max2 (hc : X.calm = true) : CallD X W (.builtin "max") nMax2 := by
  refine ⟨_, call_max2 hc, fun φ ρ M σ H xs vs Q m r h => ?_⟩
  unfold nMax2 at h
  split at h
  · obtain ⟨v, w, rfl, rd, rd2⟩ := r.two
    cases rd; cases rd2
    exact ⟨_, _, rfl, h _ _ _ .refl m (.int _)⟩
  · exact h.elim
theorem cd_min2 (hc : X.calm = true) : CallD X W (.builtin "min") nMin2 := by
  refine ⟨_, call_min2 hc, fun φ ρ M σ H xs vs Q m r h => ?_⟩
  unfold nMin2 at h
  split at h
  · obtain ⟨v, w, rfl, rd, rd2⟩ := r.two
    cases rd; cases rd2
    exact ⟨_, _, rfl, h _ _ _ .refl m (.int _)⟩
  · exact h.elim
theorem cd_int : CallD X W (.type "int") nInt := by
  refine ⟨_, call_int1, fun φ ρ M σ H xs vs Q m r h => ?_⟩
  unfold nInt at h
  split at h
  · obtain ⟨v, rfl, rd⟩ := r.one
    cases rd
    exact .inl ⟨_, rfl, h _ _ _ .refl m (.int _)⟩
  · obtain ⟨v, rfl, rd⟩ := r.one
    cases rd
    exact .inr ⟨_, rfl, h _ _ _ .refl m (.int _)⟩
  · exact h.elim
theorem cd_sum (hc : X.calm = true) : CallD X W (.builtin "sum") nSum := by
  refine ⟨_, cr_sum hc, fun φ ρ M σ H xs vs Q m r h => ?_⟩
  unfold nSum at h
  split at h
  · rename_i ns e
    obtain ⟨a, rfl, s⟩ := readI_ok m r e
    exact ⟨a, ns, rfl, s, h _ _ _ .refl m (.int _)⟩
  · exact h.elim
theorem cd_any (hc : X.calm = true) : CallD X W (.builtin "any") nAny := by
  refine ⟨_, cr_any hc, fun φ ρ M σ H xs vs Q m r h => ?_⟩
  unfold nAny at h
  split at h
  · rename_i ns e
    obtain ⟨a, rfl, s⟩ := readB_ok m r e
    exact ⟨a, ns, rfl, s, h _ _ _ .refl m (.bl _)⟩
  · exact h.elim
theorem cd_len : CallD X W (.builtin "len") nLen := by
  refine ⟨_, call_len, fun φ ρ M σ H xs vs Q m r h => ?_⟩
  unfold nLen at h
  split at h
  · obtain ⟨v, rfl, rd⟩ := r.one
    cases rd
    split at h
    · rename_i z
      exact ⟨_, _, rfl, ⟨z, rfl⟩, h _ _ _ .refl m (.int _)⟩
    · exact h.elim
  · obtain ⟨v, rfl, rd⟩ := r.one
    split at h
    · rename_i ds e
      obtain ⟨a, ys, rfl, s, r2⟩ := seqD_ok m rd e
      refine ⟨_, ds.length, rfl, ?_, h _ _ _ .refl m (.int _)⟩
      rcases s with s | s
      · exact .inl ⟨ys, s, r2.length⟩
      · exact .inr ⟨ys, s, r2.length⟩
    · exact h.elim
  · exact h.elim
theorem call_tupF : CallR X (.type "tuple") (fun xs H Q => ∃ p ys, xs = [.ref p] ∧ ((SqL X.K H p ys ∧ ∀ l o, H l = none → o.dict = none → Q (.ref l) (upd H l (.frz o (.tup ys)))) ∨ (SqT X.K H p ys ∧ Q (.ref p) H))) := by
  intro pins s σ H xs us Q I r
  intro h
  obtain ⟨p, ys, e, h⟩ := h
  subst e
  rcases h with (⟨hq, q⟩ | ⟨hq, q⟩)
  · obtain ⟨u, e, rx⟩ := vals1 r
    subst e
    cases rx
    obtain ⟨its, r', pl, hz⟩ := I.list hq
    refine call_tuple_list pl.isList (fun h' kp => ?_) (by rw [List.size_toArray, ← r'.length]; exact hz)
    exact lay_tup (I.kept (t' := s.toks) kp) r' hz q
  · exact call_tuple_of pins s σ H _ us Q I r ⟨p, ys, rfl, .inr ⟨hq, q⟩⟩
theorem cd_tuple : CallD X W (.type "tuple") nTup := by
  refine ⟨_, call_tupF, fun φ ρ M σ H xs vs Q m r h => ?_⟩
  unfold nTup at h
  split at h
  · obtain ⟨v, rfl, rd⟩ := r.one
    cases rd with
    | tup hh rr => exact ⟨_, _, rfl, .inr ⟨hh.sq, h _ _ _ .refl m (.tup hh rr)⟩⟩
  · obtain ⟨v, rfl, rd⟩ := r.one
    split at h
    · rename_i ds e
      obtain ⟨a, ys, rfl, s, r2⟩ := derefL_ok m rd e
      exact ⟨_, _, rfl, .inl ⟨s, fun l o hl d => h _ _ _ (.new hl) (m.new hl) (frz_tup m hl d r2)⟩⟩
    · exact h.elim
  · exact h.elim
end

/-! ### sorted: ints, pairs of ints -/
def putSt (x : Int) : List Int → List Int
  | [] => [x]
  | y :: r => if x ≤ y then x :: y :: r else y :: putSt x r
def sortI : List Int → List Int
  | [] => []
  | x :: r => putSt x (sortI r)
theorem putSt_perm (x : Int) : ∀ l, (putSt x l).Perm (x :: l)
  | [] => .refl _
  | y :: r => by
    unfold putSt
    split
    · exact .refl _
    · exact ((putSt_perm x r).cons y).trans (.swap x y r)
theorem sortI_perm : ∀ l, (sortI l).Perm l
  | [] => .refl _
  | x :: r => (putSt_perm x _).trans ((sortI_perm r).cons x)
theorem putSt_sorted (x : Int) : ∀ {l : List Int}, l.Pairwise (· ≤ ·) → (putSt x l).Pairwise (· ≤ ·)
  | [], _ => List.pairwise_singleton _ _
  | y :: r, h => by
    unfold putSt
    have h' := List.pairwise_cons.1 h
    split
    · rename_i q
      exact List.pairwise_cons.mpr ⟨fun z hz => by
        rcases List.mem_cons.1 hz with rfl | hz
        · exact q
        · exact Int.le_trans q (h'.1 z hz), h⟩
    · rename_i q
      refine List.pairwise_cons.mpr ⟨fun z hz => ?_, putSt_sorted x h'.2⟩
      rcases List.mem_cons.mp ((putSt_perm x r).mem_iff.mp hz) with rfl | hz
      · omega
      · exact h'.1 z hz
theorem sortI_sorted : ∀ l, (sortI l).Pairwise (· ≤ ·)
  | [] => .nil
  | x :: r => putSt_sorted x (sortI_sorted r)
theorem sorted_uniq {l m : List Int} (p : l.Perm m) (h1 : l.Pairwise (· ≤ ·)) (h2 : m.Pairwise (· ≤ ·)) : l = m :=
  List.Perm.eq_of_pairwise (le := (· ≤ ·)) (fun a b _ _ x y => Int.le_antisymm x y) h1 h2 p
def nSortI : OpN := fun xs M => match (readL M xs).bind intsD with
  | some ns => .ok (.lst ((sortI ns).map .int)) M
  | none => .st
theorem intsRD {K : Kx} {ρ : List Addr} {H : Hp} : ∀ ns : List Int, RDs K ρ H (ns.map .int) (ns.map V.int)
  | [] => .nil
  | n :: r => .cons (.int n) (intsRD r)
section
variable {X : Cx} {W : WX}
theorem cd_sortI : CallD X W (.builtin "sorted") nSortI := by
  refine ⟨_, cr_sortedI, fun φ ρ M σ H xs vs Q m r h => ?_⟩
  unfold nSortI at h
  split at h
  · rename_i ns e
    obtain ⟨a, rfl, s⟩ := readI_ok m r e
    refine ⟨a, ns, rfl, s, fun ns' p pe so hp => ?_⟩
    have e1 : ns' = sortI ns := sorted_uniq (pe.trans (sortI_perm ns).symm) so (sortI_sorted ns)
    rw [e1]
    exact h _ _ _ (.new hp) (m.new hp) (new_lst m hp (intsRD _))
  · exact h.elim
end
def insP (x : Int × Int) : List (Int × Int) → List (Int × Int)
  | [] => [x]
  | y :: r => if SrtO.lexB y x then y :: insP x r else x :: y :: r
def sortP : List (Int × Int) → List (Int × Int)
  | [] => []
  | x :: r => insP x (sortP r)
theorem insP_perm (x : Int × Int) : ∀ l, (insP x l).Perm (x :: l)
  | [] => .refl _
  | y :: r => by
    unfold insP
    split
    · exact ((insP_perm x r).cons y).trans (.swap x y r)
    · exact .refl _
theorem sortP_perm : ∀ l, (sortP l).Perm l
  | [] => .refl _
  | x :: r => (insP_perm x _).trans ((sortP_perm r).cons x)
theorem lexB_swo : SrtO.Swo SrtO.lexB := by
  refine ⟨fun x y h => ?_, ?_⟩ <;> try intro x y z h1 h2
  · have := SrtO.lexB_iff.mp h
    exact SrtO.lexB_no.mpr (by omega)
  · have := SrtO.lexB_no.mp h1
    have := SrtO.lexB_no.mp h2
    exact SrtO.lexB_no.mpr (by omega)
theorem lexB_eq {x y : Int × Int} (h1 : SrtO.lexB x y = false) (h2 : SrtO.lexB y x = false) : x = y := by
  have := SrtO.lexB_no.mp h1
  have := SrtO.lexB_no.mp h2
  obtain ⟨a, b⟩ := x
  obtain ⟨c, d⟩ := y
  simp only [Prod.mk.injEq] at *
  omega
theorem insP_sorted (x : Int × Int) : ∀ {l : List (Int × Int)}, SrtO.Srtd SrtO.lexB l → SrtO.Srtd SrtO.lexB (insP x l)
  | [], _ => List.pairwise_singleton _ _
  | y :: r, h => by
    unfold insP
    have h' := List.pairwise_cons.1 h
    split
    · rename_i q
      refine List.pairwise_cons.mpr ⟨fun z hz => ?_, insP_sorted x h'.2⟩
      rcases List.mem_cons.mp ((insP_perm x r).mem_iff.mp hz) with rfl | hz
      · exact lexB_swo.asym _ _ q
      · exact h'.1 z hz
    · rename_i q
      have q' : SrtO.lexB y x = false := by simpa using q
      exact List.pairwise_cons.mpr ⟨fun z hz => by
        rcases List.mem_cons.1 hz with rfl | hz
        · exact q'
        · exact lexB_swo.tr x y z q' (h'.1 z hz), h⟩
theorem sortP_sorted : ∀ l, SrtO.Srtd SrtO.lexB (sortP l)
  | [] => .nil
  | x :: r => insP_sorted x (sortP_sorted r)
theorem sortP_uniq {l m : List (Int × Int)} (p : l.Perm m) (h1 : SrtO.Srtd SrtO.lexB l) : l = sortP m :=
  List.Perm.eq_of_pairwise (le := fun x y => SrtO.lexB y x = false) (fun a b _ _ x y => lexB_eq y x) h1 (sortP_sorted m) (p.trans (sortP_perm m).symm)
def pairsD : List D → Option (List (Int × Int))
  | [] => some []
  | .tup [.int i, .int j] :: r => (pairsD r).map ((i, j) :: ·)
  | _ => none
def pairD (p : Int × Int) : D := .tup [.int p.1, .int p.2]
def nSortP : OpN := fun xs M => match (readL M xs).bind pairsD with
  | some ps => .ok (.lst ((sortP ps).map pairD)) M
  | none => .st
/-- at v: a pair -/
def IsPr (K : PySem.W.Frag) (H : Hp) (v : V) (p : Int × Int) : Prop := ∃ t, v = V.ref t ∧ SqT K H t [.int p.1, .int p.2]
def rSortPairs (K : PySem.W.Frag) : List V → Hp → VK → Prop := fun vs H Q => ∃ (a : Addr) (xs : List V) (ps : List (Int × Int)) (R : V → Int × Int → Prop), vs = [V.ref a] ∧ SqL K H a xs ∧ (∀ x p, R x p → IsPr K H x p) ∧ Paired R xs ps ∧
  ∀ ys p, Paired R ys (sortP ps) → H p = none → Q (.ref p) (upd H p (.lst ys))
theorem Paired.mem {α β : Type} {F : α → β → Prop} : ∀ {l : List α} {m : List β} {x : α}, Paired F l m → x ∈ l → ∃ y ∈ m, F x y
  | _, _, _, .cons r t, h => by
    rcases List.mem_cons.1 h with rfl | h
    · exact ⟨_, List.mem_cons_self, r⟩
    · obtain ⟨y, hy, f⟩ := Paired.mem t h
      exact ⟨y, List.mem_cons_of_mem _ hy, f⟩
theorem Paired.of_map {α β : Type} {F : α → β → Prop} {k : α → β} : ∀ {l : List α}, (∀ x ∈ l, F x (k x)) → Paired F l (l.map k)
  | [], _ => .nil
  | x :: r, h => .cons (h x List.mem_cons_self) (Paired.of_map fun y hy => h y (List.mem_cons_of_mem _ hy))
theorem Paired.eq_map {α β : Type} {F : α → β → Prop} {k : α → β} : ∀ {l : List α} {m : List β}, Paired F l m → (∀ x ∈ l, ∀ y, F x y → y = k x) → m = l.map k
  | _, _, .nil, _ => rfl
  | _, _, .cons r t, h => by rw [List.map_cons, ← h _ List.mem_cons_self _ r, ← Paired.eq_map t fun x hx => h x (List.mem_cons_of_mem _ hx)]
section
variable {X : Cx} {W : WX}
theorem cr_sortPairs : CallR X (.builtin "sorted") (rSortPairs X.K) := by
  intro pins s σ H vs us Q I r
  intro h
  obtain ⟨a, xs, ps, R, e0, sq, hR, pp, q⟩ := h
  subst e0
  obtain ⟨its, rv, hl, hz⟩ := I.list sq
  obtain ⟨u, e0, ru⟩ := vals1 r
  subst e0
  have ru' : u = Value.ref a := ru
  subst ru'
  obtain ⟨e1, e2⟩ := refs_back rv fun x mx => by
    obtain ⟨_, _, f⟩ := Paired.mem pp mx
    obtain ⟨t, e, _⟩ := hR _ _ f
    exact ⟨t, e⟩
  -- the pair at an address is one
  let k : V → Int × Int := fun x => match x with
    | .ref t => match (xs.zip ps).find? fun z => decide (z.1 = V.ref t) with
      | some z => z.2
      | none => (0, 0)
    | _ => (0, 0)
  have inj : ∀ x p p', R x p → R x p' → p = p' := by
    intro x p p' f1 f2
    obtain ⟨t, e, s1⟩ := hR _ _ f1
    obtain ⟨t', e', s2⟩ := hR _ _ f2
    subst e
    cases e'
    have z := I.tuple_inj s1 s2
    simp only [List.cons.injEq, V.int.injEq] at z
    exact Prod.ext z.1 z.2.1
  have zips : ∀ {l : List V} {m : List (Int × Int)}, Paired R l m → ∀ z ∈ l.zip m, R z.1 z.2 := by
    intro l m h
    induction h with
    | nil => intro z hz; cases hz
    | cons r t ih =>
      intro z hz
      rcases List.mem_cons.1 hz with e | hz
      · subst e; exact r
      · exact ih z hz
  have len : xs.length = ps.length := Paired.length pp
  have hk : ∀ x ∈ xs, R x (k x) := by
    intro x mx
    obtain ⟨p, _, f⟩ := Paired.mem pp mx
    obtain ⟨t, e, s1⟩ := hR _ _ f
    subst e
    show R (.ref t) (match (xs.zip ps).find? fun z => decide (z.1 = V.ref t) with | some z => z.2 | none => (0, 0))
    cases qf : (xs.zip ps).find? fun z => decide (z.1 = V.ref t) with
    | some z =>
      have h1 := List.find?_some qf
      have h2 := zips pp z (List.mem_of_find?_eq_some qf)
      have h3 : z.1 = V.ref t := of_decide_eq_true h1
      rw [h3] at h2
      exact h2
    | none =>
      exfalso
      obtain ⟨i, hi, ei⟩ := List.getElem_of_mem mx
      have h1 := List.find?_eq_none.mp qf (xs[i], ps[i]'(by omega)) (List.mem_iff_getElem.mpr ⟨i, by simp; omega, by simp⟩)
      exact h1 (by simp [ei])
  have hps : ps = xs.map k := Paired.eq_map pp fun x mx y fy => inj x _ _ fy (hk x mx)
  have zl := hz
  rw [rv.length] at zl
  refine SrtO.sorted_pairsO (k := fun u => k (backV u)) hl.isList zl (fun v hv => ?_) fun h' d out h1 h2 kp hd hn => ?_
  · obtain ⟨t, e⟩ := e2 v hv
    subst e
    obtain ⟨t', e, st⟩ := hR _ _ (hk (.ref t) (by rw [e1]; exact List.mem_map.mpr ⟨_, hv, rfl⟩))
    cases e
    obtain ⟨its2, r2, ⟨o, ho, hc, n, hd⟩, _⟩ := I.tuple st
    obtain ⟨u1, u2, e, ri, rj⟩ := vals2 r2
    subst e
    obtain ⟨t1, e⟩ := ri
    subst e
    obtain ⟨t2, e⟩ := rj
    subst e
    exact ⟨t, o, t1, t2, n, Eq.refl _, ho, hc, hd⟩
  · have h3 : ∀ u ∈ out, ∃ a, u = Value.ref a := fun u hu => e2 u (h2.perm.mem_iff.1 hu)
    obtain ⟨n, hn⟩ := hn
    have pm : (out.map backV).Perm xs := by rw [e1]; exact h2.perm.map backV
    have hs : SrtO.Srtd SrtO.lexB ((out.map backV).map k) := by
      rw [List.map_map]
      exact List.pairwise_map.mpr h1
    have e3 : (out.map backV).map k = sortP ps := by
      rw [hps]
      exact sortP_uniq (pm.map k) hs
    have lay : ObjOk X.prog X.w (upd H d (.lst (out.map backV))) h' d (.lst (out.map backV)) := ⟨by rw [pm.length_eq]; exact hz, out, n, vals_back h3, hn⟩
    refine ⟨.ref d, _, I.laid (t' := s.toks) kp hd lay, rfl, q _ d ?_ (I.hok.fresh hd)⟩
    rw [← e3]
    exact Paired.of_map fun x mx => hk x (pm.mem_iff.mp mx)
theorem pairsD_ok {K : Kx} {ρ : List Addr} {H : Hp} : ∀ {ds : List D} {vs : List V} {ps : List (Int × Int)}, RDs K ρ H ds vs → pairsD ds = some ps → Paired (fun v p => ∃ t, v = V.ref t ∧ SqTf K ρ H t [.int p.1, .int p.2]) vs ps
  | [], _, _, .nil, e => by cases e; exact .nil
  | d :: ds, _, ps, .cons h t, e => by
    unfold pairsD at e
    split at e
    · cases ‹_ :: _ = ([] : List D)›
    · rename_i i j r q
      cases q
      obtain ⟨ms, e1, rfl⟩ := Option.map_eq_some_iff.mp e
      cases h with
      | tup hh rr =>
        obtain ⟨v, w, rfl, ra, rb⟩ := rr.two
        cases ra; cases rb
        exact .cons ⟨_, rfl, hh⟩ (pairsD_ok t e1)
    · cases e
theorem cd_sortP : CallD X W (.builtin "sorted") nSortP := by
  refine ⟨_, cr_sortPairs, fun φ ρ M σ H xs vs Q m r h => ?_⟩
  unfold nSortP at h
  split at h
  · rename_i ps e
    obtain ⟨ds, e1, e2⟩ := Option.bind_eq_some_iff.mp e
    obtain ⟨a, ys, rfl, s, r2⟩ := readL_ok m r e1
    have pp := pairsD_ok r2 e2
    refine ⟨a, ys, ps, _, rfl, s, fun v p ⟨t, e, q⟩ => ⟨t, e, q.sq⟩, pp, fun zs p pz hp => ?_⟩
    refine h _ _ _ (.new hp) (m.new hp) (new_lst m hp ?_)
    clear h
    generalize sortP ps = qs at pz ⊢
    induction pz with
    | nil => exact .nil
    | cons r t ih =>
      obtain ⟨t', e, st⟩ := r
      subst e
      exact .cons (.tup st (.cons (.int _) (.cons (.int _) .nil))) ih
  · exact h.elim
end
abbrev nSorted : OpN := gnOr nSortI nSortP
theorem cd_sorted {X : Cx} {W : WX} : CallD X W (.builtin "sorted") nSorted := cd_sortI.or cd_sortP

/-! ### isinstance -/
/-- a value's class: a built-in type's name -/
def tyD (M : Mem) : D → Option String
  | .non => some "NoneType"
  | .bl _ => some "bool"
  | .int _ => some "int"
  | .str _ => some "str"
  | .tup _ => some "tuple"
  | .itm _ => some "tuple"
  | .lst _ => some "list"
  | .fzl _ => some "list"
  | .dcv _ => some "dict"
  | .ref l => match M[l]? with
    | some (Ob.lst _) => some "list"
    | some (.dic _) => some "dict"
    | _ => none
  | _ => none
theorem tyD_ok {K : Kx} {ρ : List Addr} {H : Hp} {M : Mem} {d : D} {v : V} {t : String} (m : MOk K ρ M H) (r : RD K ρ H d v) (e : tyD M d = some t) : TyX K.K H v (.type t) := by
  cases r with
  | non => cases e; exact .base .non
  | bl b => cases e; exact .base (.bl b)
  | int b => cases e; exact .base (.int b)
  | str b => cases e; exact .base (.str b)
  | tup h r =>
    cases e
    rcases h with ⟨⟨o, h, _⟩, _⟩ | ⟨o, its, n, h1, h2, _⟩
    · exact .fTuple h
    · exact .kTuple h1 h2
  | itm h n r => cases e; exact .base (.tup h)
  | lst h n r => cases e; exact .base (.lst h)
  | fzl h r =>
    cases e
    rcases h with ⟨h | ⟨o, h⟩, _⟩ | ⟨o, its, n, h1, h2, _⟩
    · exact .base (.lst h)
    · exact .base (.frz h)
    · exact .kList h1 h2
  | dcv h n r => cases e; exact .base (.dK h)
  | @ref l a h =>
    unfold tyD at e
    simp only at e
    split at e
    · rename_i q
      cases e
      obtain ⟨u, hu, xs, e1, _⟩ := m.at_ _ _ _ q h
      subst e1
      exact .base (.lst hu)
    · rename_i q
      cases e
      obtain ⟨u, hu, xs, e1, _⟩ := m.at_ _ _ _ q h
      subst e1
      exact .base (.dK hu)
    · cases e
  | _ => cases e
/-- isinstance(x, T), T a built-in type -/
def nIsTy : OpN := fun xs M => match xs with
  | [d, .ty n] => match tyD M d with
    | some t => match kitB t n with
      | some b => .ok (.bl b) M
      | none => .st
    | none => .st
  | _ => .st
section
variable {X : Cx} {W : WX}
theorem cd_isTy : CallD X W (.builtin "isinstance") nIsTy := by
  refine ⟨_, call_isi, fun φ ρ M σ H xs vs Q m r h => ?_⟩
  unfold nIsTy at h
  split at h
  · obtain ⟨v, w, rfl, rd, rd2⟩ := r.two
    cases rd2
    split at h
    · rename_i t et
      split at h
      · rename_i b eb
        exact ⟨v, _, _, _, b, rfl, .ty _, tyD_ok m rd et, kit_ty eb, h _ _ _ .refl m (.bl _)⟩
      · exact h.elim
    · exact h.elim
  · exact h.elim
theorem de_ty {x : Str} {n : String} {pos : Pos} (hg : Gl X x) (hm : X.mg x = none) (hv : bootBuiltins x = some (.type n)) (hn : x ≠ "__name__" := by decide) (hd : (x == ("__debug__" : Str)) = false := by decide) : DE X W (.Name x pos) (eC (.ty n)) :=
  ⟨_, pe_bltn (v := .ty n) hg hm hv rfl hn hd, fun φ ρ env M σ H Q e m h => h _ _ _ .refl m (.ty n)⟩
end
end DL

namespace DL
open PySem L2

/-! ### targets -/
def gN (i : Nat) : Tg := fun d env M => .nx (env.set i (some d)) M
abbrev TgL := List D → Env → Mem → OutS
def gsNil : TgL := fun ds env M => match ds with
  | [] => .nx env M
  | _ => .st
def gsCons (g : Tg) (gs : TgL) : TgL := fun ds env M => match ds with
  | [] => .st
  | d :: r => match g d env M with
    | .nx e1 M1 => gs r e1 M1
    | _ => .st
def gT (n : Nat) (gs : TgL) : Tg := fun d env M => match d with
  | .tup ds => if ds.length = n then gs ds env M else .st
  | .itm ds => if ds.length = n then gs ds env M else .st
  | d => match derefL M d with
    | some ds => if ds.length = n then gs ds env M else .st
    | none => .st
/-- (a, b, ..) = a tuple or a list of that length -/
def gSeq (K : PySem.W.Frag) (n : Nat) (t : TGs) : TG := fun v σ H Q => ∃ a xs, v = .ref a ∧ (SqT K H a xs ∨ SqL K H a xs) ∧ xs.length = n ∧ t xs σ H Q
theorem pg_seq {X : Cx} {es : List Expr} {k : Nat} {t : TGs} {n : Nat} {pos : Pos} (hc : X.calm = true) (h : PGs X es t) (hn : (assignEach es X.env).length = n := by rfl) (hst : (assignEach es X.env).findIdx? (·.1) = none := by rfl) : PG X (.Tuple es k pos) (gSeq X.K n t) := by
  (refine ⟨fun pins s σ H v u Q I r hw => ?_⟩)
  obtain ⟨a, xs, rfl, hq, hl, hw⟩ := hw
  rcases hq with hq | hq
  · exact (pg_tup (k := k) (pos := pos) hc h hn hst).run pins s σ H _ u Q I r ⟨a, xs, rfl, hq, hl, hw⟩
  · cases r
    (obtain ⟨its, rv, p, hz⟩ := I.list hq)
    have hs : its.toArray.size = n := by rw [← hl, rv.length]; simp
    (rw [PyProof.Rows.assign_Tuple])
    (refine wpAny_bind (wpAny_standAt ?_))
    unfold unpack
    rw [hn, hst, ← hs]
    refine wpAny_bind (wpAny_holding (PySem.W.kun_itemsOf (I.ok.hd hc) p.isList fun h' hx => ?_))
    (have I1 : Inv X pins σ H { s with heap := h' } := I.kept (t' := s.toks) fun b o e => hx b o (Nat.ne_of_lt (Heap.lt_size e)) e)
    (exact h.run pins _ σ H xs _ Q I1 (by simpa using rv) hw)
/-- xs[i] = v, xs a list of the store -/
def gSub (fo fi : Ev) : Tg := fun d env M => match fo env M with
  | .ok (.ref l) M1 => match fi env M1 with
    | .ok (.int k) M2 => match M2[l]? with
      | some (.lst xs) => match ixN xs.length k with
        | some j => .nx env (M2.set l (.lst (xs.set j d)))
        | none => .st
      | _ => .st
    | _ => .st
  | _ => .st
def DGs (X : Cx) (es : List Expr) (f : TgL) : Prop := ∃ t, PGs X es t ∧ ∀ φ ρ env M σ H ds vs Q, RE ⟨X.K, φ⟩ ρ H env σ → MOk ⟨X.K, φ⟩ ρ M H → RDs ⟨X.K, φ⟩ ρ H ds vs → PostG ⟨X.K, φ⟩ ρ H (f ds env M) Q → t vs σ H Q
section
variable {X : Cx} {W : WX} {pos : Pos} {a b c : Expr} {fa fb fc : Ev} {g g' : Tg} {gs : TgL} {es : List Expr}
theorem dg_name (i : Nat) {x : Str} (hN : X.N.Nodup) (hi : X.N[i]? = some x := by rfl) (hx : Loc X.env.scope x := by first | exact .inl rfl | exact .inr rfl) (hf : X.fn x = true ∨ X.env.scope.names.lookup x = some .local := by first | exact .inl rfl | exact .inr rfl) : DG X (.Name x pos) (gN i) :=
  ⟨_, pg_name hN hi hx hf, fun φ ρ env M σ H d v Q e m r h => h _ _ _ .refl m (e.set r)⟩
theorem dgs_nil : DGs X [] gsNil := ⟨_, pgs_nil, fun φ ρ env M σ H ds vs Q e m r h => by
  cases r with
  | nil => exact ⟨rfl, h _ _ _ .refl m e⟩
  | cons _ _ => exact h.elim⟩
theorem dgs_cons (h1 : DG X a g) (h2 : DGs X es gs) (hs : (assignEach (a :: es) X.env).map (·.2) = assign a X.env :: (assignEach es X.env).map (·.2) := by rfl) : DGs X (a :: es) (gsCons g gs) := by
  obtain ⟨t1, p1, s1⟩ := h1
  obtain ⟨t2, p2, s2⟩ := h2
  refine ⟨_, pgs_cons p1 p2 hs, fun φ ρ env M σ H ds vs Q e m r h => ?_⟩
  cases r with
  | nil => exact h.elim
  | @cons d ds' v vs' r rr =>
    refine ⟨_, _, rfl, s1 φ ρ env M σ H d v _ e m r ?_⟩
    have h' : PostG ⟨X.K, φ⟩ ρ H (match g d env M with | .nx e1 M1 => gs ds' e1 M1 | _ => .st) Q := h
    cases hg : g d env M with
    | nx e1 M1 =>
      rw [hg] at h'
      intro ρ1 H1 σ1 a1 b1 c1
      exact s2 φ ρ1 e1 M1 σ1 H1 _ _ Q c1 b1 (rr.ext a1) (PostG.ext a1 h')
    | _ => rw [hg] at h'; exact h'.elim
theorem dg_tup {k : Nat} (hc : X.calm = true) (h : DGs X es gs) (n : Nat) (hn : (assignEach es X.env).length = n := by rfl) (hst : (assignEach es X.env).findIdx? (·.1) = none := by rfl) : DG X (.Tuple es k pos) (gT n gs) := by
  obtain ⟨t, p, s⟩ := h
  refine ⟨_, pg_seq hc p hn hst, fun φ ρ env M σ H d v Q e m r h => ?_⟩
  have lst : ∀ ds, derefL M d = some ds → PostG ⟨X.K, φ⟩ ρ H (if ds.length = n then gs ds env M else .st) Q → gSeq X.K n t v σ H Q := fun ds hx h' => by
    obtain ⟨a, xs, rfl, q, rr⟩ := derefL_ok m r hx
    split at h'
    · rename_i z
      exact ⟨a, xs, rfl, .inr q, by rw [← rr.length]; exact z, s φ ρ env M σ H _ _ Q e m rr h'⟩
    · exact h'.elim
  cases r with
  | @tup ds a xs hh rr =>
    have h' : PostG ⟨X.K, φ⟩ ρ H (if ds.length = n then gs ds env M else .st) Q := h
    split at h'
    · rename_i z
      exact ⟨_, _, rfl, .inl hh.sq, by rw [← rr.length]; exact z, s φ ρ env M σ H _ _ Q e m rr h'⟩
    · exact h'.elim
  | @itm ds a xs hh nn rr =>
    have h' : PostG ⟨X.K, φ⟩ ρ H (if ds.length = n then gs ds env M else .st) Q := h
    split at h'
    · rename_i z
      exact ⟨_, _, rfl, .inl (.inl (.inl hh)), by rw [← rr.length]; exact z, s φ ρ env M σ H _ _ Q e m rr h'⟩
    · exact h'.elim
  | @lst ds a xs hh nn rr => exact lst ds rfl h
  | @fzl ds a xs hh rr => exact lst ds rfl h
  | @ref l q hq =>
    have h' : PostG ⟨X.K, φ⟩ ρ H (match derefL M (.ref l) with | some ds => if ds.length = n then gs ds env M else .st | none => .st) Q := h
    split at h'
    · rename_i ds hx; exact lst ds hx h'
    · exact h'.elim
  | _ => exact h.elim
theorem dg_sub {i o : Expr} {fo fi : Ev} (ho : DE X W o fo) (hi : DE X W i fi) (ha : ∀ v, assign (.Subscript o i pos) X.env v = (holding [v] (eval o X.env) >>= fun a => holding [v, a] (eval i X.env) >>= fun b => standAt pos >>= fun _ => holding [v, a, b] (setItem a b v) >>= fun _ => release [v, a, b] []) := by intro _; rfl) : DG X (.Subscript o i pos) (gSub fo fi) := by
  obtain ⟨to, po, so⟩ := ho
  obtain ⟨ti, pi, si⟩ := hi
  refine ⟨_, pg_sub po pi set_list ha, fun φ ρ env M σ H d v Q e m r h => ?_⟩
  unfold gSub at h
  refine so φ ρ env M σ H _ e m ?_
  split at h
  · rename_i l M1 q1
    rw [q1]
    intro ρ1 H1 vo a1 b1 c1
    refine si φ ρ1 env M1 σ H1 _ (e.ext a1) b1 ?_
    split at h
    · rename_i k M2 q2
      rw [q2]
      intro ρ2 H2 vi a2 b2 c2
      split at h
      · rename_i xs q3
        split at h
        · rename_i j q4
          cases c2
          cases c1.ext a2 with
          | @ref _ p hl =>
            obtain ⟨u, hu, ys, e1, rr⟩ := b2.at_ _ _ _ q3 hl
            subst e1
            have hp : p ∈ ρ2 := List.mem_of_getElem? hl
            have ex : Ext ρ2 H2 ρ2 (upd H2 p (.lst (ys.set j v))) := .write (by rw [hu]; simp) hp
            refine ⟨p, ys, k, j, rfl, rfl, hu, by rw [← rr.length]; exact q4, ?_⟩
            exact h _ _ _ ((a1.trans a2).trans ex) (b2.set hl ⟨_, rfl, (rr.ext ex).set (r.ext ((a1.trans a2).trans ex)) j⟩) (e.ext ((a1.trans a2).trans ex))
        · exact h.elim
      · exact h.elim
    · exact h.elim
  · exact h.elim

/-! ### statements -/
def sSeq (s1 s2 : Sx) : Sx := fun env M => (s1 env M).bind s2
def sNil : Sx := fun env M => .nx env M
def sAsg (f : Ev) (g : Tg) : Sx := fun env M => (f env M).bindS env fun d M1 => g d env M1
def sExpr (f : Ev) : Sx := fun env M => (f env M).bindS env fun _ M1 => .nx env M1
def sRet (f : Ev) : Sx := fun env M => (f env M).bindS env fun d M1 => .rt d M1
def sRetN : Sx := fun _ M => .rt .non M
def sIf (ft : Ev) (s1 s2 : Sx) : Sx := fun env M => (ft env M).bindS env fun d M1 => match d with
  | .bl true => s1 env M1
  | .bl false => s2 env M1
  | _ => .st
def sBreak : Sx := fun env M => .bk env M
def sCont : Sx := fun env M => .ct env M
def sPar (i j : Nat) (f : EvL) : Sx := fun env M => (f env M).bindS env fun ds M1 => match ds with
  | [d, e] => .nx ((env.set i (some d)).set j (some e)) M1
  | _ => .st
def sPar3 (i j k : Nat) (f : EvL) : Sx := fun env M => (f env M).bindS env fun ds M1 => match ds with
  | [d, e, r] => .nx (((env.set i (some d)).set j (some e)).set k (some r)) M1
  | _ => .st
def sAug (i : Nat) (g : Op2) (f : Ev) : Sx := fun env M => match env[i]? with
  | some (some x) => (f env M).bindS env fun y M1 => (g x y M1).bindS env fun z M2 => .nx (env.set i (some z)) M2
  | _ => .st
def sNever : Sx := fun _ _ => .st
variable {st : Stmt} {sts rest : List Stmt} {f1 f2 : Sx} {fl : EvL}
theorem db_nil : DB X W [] sNil := ⟨_, pss_nil, fun φ ρ env M σ H E e m h => h _ _ _ .refl m e⟩
theorem db_cons (h1 : DS X W st f1) (h2 : DB X W rest f2) : DB X W (st :: rest) (sSeq f1 f2) := by
  obtain ⟨t1, p1, s1⟩ := h1
  obtain ⟨t2, p2, s2⟩ := h2
  refine ⟨_, pss_cons p1 p2, fun φ ρ env M σ H E e m h => ?_⟩
  refine s1 φ ρ env M σ H _ e m ?_
  have h' : PostS ⟨X.K, φ⟩ W ρ H ((f1 env M).bind f2) E := h
  cases q : f1 env M with
  | nx e1 M1 =>
    rw [q] at h'
    intro ρ1 H1 σ1 a1 b1 c1
    exact s2 φ ρ1 e1 M1 σ1 H1 E c1 b1 (PostS.ext a1 h')
  | rt d M1 => rw [q] at h'; exact h'
  | bk d M1 => rw [q] at h'; exact h'
  | ct d M1 => rw [q] at h'; exact h'
  | ex x d M1 => rw [q] at h'; exact h'
  | st => rw [q] at h'; exact h'.elim
theorem db_one (h1 : DS X W st f1) : DB X W [st] f1 := by
  obtain ⟨t1, p1, s1⟩ := h1
  exact ⟨_, pss_one p1, s1⟩
theorem PostG.of {k : Kx} {ρ : List Addr} {H : Hp} {r : OutS} {E : Ends} (hx : (∃ e M, r = .nx e M) ∨ r = .st) (h : PostS k W ρ H r E) : PostG k ρ H r E.nx := by
  rcases hx with ⟨e, M, rfl⟩ | rfl
  · exact h
  · exact h
/-- a target ends well or not at all -/
def TgOk (g : Tg) : Prop := ∀ d env M, (∃ e M', g d env M = .nx e M') ∨ g d env M = .st
def TgLOk (g : TgL) : Prop := ∀ d env M, (∃ e M', g d env M = .nx e M') ∨ g d env M = .st
theorem gN_ok (i : Nat) : TgOk (gN i) := fun d env M => .inl ⟨_, _, rfl⟩
theorem gsNil_ok : TgLOk gsNil := fun d env M => by
  cases d with
  | nil => exact .inl ⟨_, _, rfl⟩
  | cons _ _ => exact .inr rfl
theorem gsCons_ok (h1 : TgOk g) (h2 : TgLOk gs) : TgLOk (gsCons g gs) := fun d env M => by
  cases d with
  | nil => exact .inr rfl
  | cons d r =>
    show (∃ e M', (match g d env M with | .nx e1 M1 => gs r e1 M1 | _ => .st) = .nx e M') ∨ _
    rcases h1 d env M with ⟨e, M', q⟩ | q
    · have := h2 r e M'
      simp only [gsCons, q]
      exact this
    · simp [gsCons, q]
theorem gT_ok {n : Nat} (h2 : TgLOk gs) : TgOk (gT n gs) := fun d env M => by
  unfold gT
  have two : ∀ ds : List D, (∃ e M', (if ds.length = n then gs ds env M else .st) = .nx e M') ∨ (if ds.length = n then gs ds env M else .st) = .st := fun ds => by
    split
    · exact h2 _ _ _
    · exact .inr rfl
  split
  · exact two _
  · exact two _
  · split
    · exact two _
    · exact .inr rfl
theorem gSub_ok : TgOk (gSub fa fb) := fun d env M => by
  unfold gSub
  split
  · split
    · split
      · split
        · exact .inl ⟨_, _, rfl⟩
        · exact .inr rfl
      · exact .inr rfl
    · exact .inr rfl
  · exact .inr rfl
theorem ds_asg {tg : Expr} (he : DE X W a fa) (hg : DG X tg g) (ok : TgOk g) (hs : swapsWithSole [tg] a pos.line X.env = pure false := by rfl) (hw : swappedStores [tg] a X.env = pure none := by rfl)
    (h1 : (assignEach [tg] X.env).map (·.2) = [assign tg X.env] := by rfl) : DS X W (.Assign [tg] a pos) (sAsg fa g) := by
  obtain ⟨te, pe, se⟩ := he
  obtain ⟨tt, pt, st⟩ := hg
  refine ⟨_, ps_asg pe pt hs hw h1, fun φ ρ env M σ H E e m h => ?_⟩
  refine se φ ρ env M σ H _ e m (Post.bindS e h fun d M1 ρ1 H1 v a1 b1 c1 h1 => ?_)
  exact st φ ρ1 env M1 σ H1 d v _ (e.ext a1) b1 c1 (PostG.of (ok _ _ _) h1)
theorem ds_set (i : Nat) {x : Str} {pos' : Pos} (hN : X.N.Nodup) (he : DE X W a fa) (hi : X.N[i]? = some x := by rfl) (hx : Loc X.env.scope x := by first | exact .inl rfl | exact .inr rfl) (hs : swapsWith a (some (.Name x pos')) pos.line X.env = pure false := by rfl)
    (hf : X.fn x = true ∨ X.env.scope.names.lookup x = some .local := by first | exact .inl rfl | exact .inr rfl) : DS X W (.Assign [.Name x pos'] a pos) (sAsg fa (gN i)) := by
  obtain ⟨te, pe, se⟩ := he
  refine ⟨_, ps_set hN hi hx pe hs hf, fun φ ρ env M σ H E e m h => ?_⟩
  refine se φ ρ env M σ H _ e m (Post.bindS e h fun d M1 ρ1 H1 v a1 b1 c1 h1 => ?_)
  exact h1 _ _ _ .refl b1 ((e.ext a1).set c1)
theorem ds_expr (he : DE X W a fa) (hs : swapsWith a none pos.line X.env = pure false := by rfl) : DS X W (.Expr a pos) (sExpr fa) := by
  obtain ⟨te, pe, se⟩ := he
  refine ⟨_, ps_expr pe hs, fun φ ρ env M σ H E e m h => ?_⟩
  refine se φ ρ env M σ H _ e m (Post.bindS e h fun d M1 ρ1 H1 v a1 b1 c1 h1 => ?_)
  exact h1 _ _ _ .refl b1 (e.ext a1)
theorem ds_ret (he : DE X W a fa) : DS X W (.Return (some a) pos) (sRet fa) := by
  obtain ⟨te, pe, se⟩ := he
  refine ⟨_, ps_ret pe, fun φ ρ env M σ H E e m h => ?_⟩
  refine se φ ρ env M σ H _ e m (Post.bindS e h fun d M1 ρ1 H1 v a1 b1 c1 h1 => ?_)
  exact h1 _ _ _ .refl b1 c1
theorem PostT.bindS {k : Kx} {ρ : List Addr} {σ : L2.St} {H : Hp} {env : Env} {r : Out} {kk : D → Mem → OutS} {E : Ends} {Q1 : Bool → Hp → Prop} (he : RE k ρ H env σ) (h : PostS k W ρ H (r.bindS env kk) E) (hb : ∀ d M, (∀ b, d ≠ .bl b) → kk d M = .st)
    (f : ∀ b M ρ' H', Ext ρ H ρ' H' → MOk k ρ' M H' → PostS k W ρ' H' (kk (.bl b) M) E → Q1 b H') : PostT k W ρ σ H r Q1 := by
  cases r with
  | ok d M =>
    cases d with
    | bl b => exact fun ρ' H' a m => f b M ρ' H' a m (PostS.ext a h)
    | _ =>
      have h' : PostS k W ρ H (kk _ M) E := h
      rw [hb _ _ (by intro b z; cases z)] at h'
      exact h'.elim
  | ex x M => exact fun ρ' H' dx a b c => h ρ' H' σ dx a b (he.ext a) c
  | st => exact h
theorem ds_if {t : Expr} {ft : Ev} (ht : DT X W t ft) (h1 : DB X W sts f1) (h2 : DB X W rest f2) : DS X W (.If t sts rest pos) (sIf ft f1 f2) := by
  obtain ⟨tt, pt, st⟩ := ht
  obtain ⟨t1, p1, s1⟩ := h1
  obtain ⟨t2, p2, s2⟩ := h2
  refine ⟨_, ps_if pt p1 p2, fun φ ρ env M σ H E e m h => ?_⟩
  refine st φ ρ env M σ H _ e m (PostT.bindS e h (fun d M z => ?_) fun b M1 ρ1 H1 a1 b1 h1 => ?_)
  · cases d with
    | bl b => exact absurd rfl (z b)
    | _ => rfl
  · cases b with
    | true => exact iteT (s1 φ ρ1 env M1 σ H1 E (e.ext a1) b1 h1)
    | false => exact iteF (s2 φ ρ1 env M1 σ H1 E (e.ext a1) b1 h1)
theorem ds_par (i j : Nat) {x y : Str} {px py pt : Pos} {kt k2 pt2} (hc : X.calm = true) (hN : X.N.Nodup) (ha : DA X W [a, b] fl) (hw : swappedStores [.Tuple [.Name x px, .Name y py] kt pt] (.Tuple [a, b] k2 pt2) X.env = pure (some [x, y]))
    (hi : X.N[i]? = some x := by rfl) (hj : X.N[j]? = some y := by rfl) (hij : i ≠ j := by decide)
    (hx : X.env.scope.names.lookup x = some .local := by rfl) (hy : X.env.scope.names.lookup y = some .local := by rfl)
    (hs : swapsWithSole [.Tuple [.Name x px, .Name y py] kt pt] (.Tuple [a, b] k2 pt2) pos.line X.env = pure false := by rfl) : DS X W (.Assign [.Tuple [.Name x px, .Name y py] kt pt] (.Tuple [a, b] k2 pt2) pos) (sPar i j fl) := by
  obtain ⟨ta, pa, la, sa⟩ := ha
  refine ⟨_, ps_par hc hN hi hj hij hx hy pa hw hs, fun φ ρ env M σ H E e m h => ?_⟩
  refine sa φ ρ env M σ H _ e m (PostL.bindS e h fun ds M1 ρ1 H1 vs a1 b1 c1 h1 => ?_)
  split at h1
  · obtain ⟨v, w, rfl, r1, r2⟩ := c1.two
    exact ⟨v, w, rfl, h1 _ _ _ .refl b1 (((e.ext a1).set r1).set r2)⟩
  · exact h1.elim
theorem RDs.three {K : Kx} {ρ : List Addr} {H : Hp} {d e f : D} {vs : List V} (h : RDs K ρ H [d, e, f] vs) : ∃ v w u, vs = [v, w, u] ∧ RD K ρ H d v ∧ RD K ρ H e w ∧ RD K ρ H f u := by
  cases h with | cons a b => cases b with | cons b c => cases c with | cons c d => cases d; exact ⟨_, _, _, rfl, a, b, c⟩
theorem ds_aug (i : Nat) {x : Str} {pos' : Pos} {op : Operator} {g : Op2} (hN : X.N.Nodup) (ho : OpD X W (inplaceOp op) g) (he : DE X W a fa) (hi : X.N[i]? = some x := by rfl) (hx : Loc X.env.scope x := by first | exact .inl rfl | exact .inr rfl)
    (hf : X.fn x = true ∨ X.env.scope.names.lookup x = some .local := by first | exact .inl rfl | exact .inr rfl) : DS X W (.AugAssign (.Name x pos') op a pos) (sAug i g fa) := by
  obtain ⟨r, o, so⟩ := ho
  obtain ⟨te, pe, se⟩ := he
  refine ⟨_, ps_aug hN hi hx pe (ti := r) o hf, fun φ ρ env M σ H E e m h => ?_⟩
  unfold sAug at h
  split at h
  · rename_i x0 hx0
    obtain ⟨v, hv, rv⟩ := e.get hx0
    refine ⟨v, hv, se φ ρ env M σ H _ e m (Post.bindS e h fun d M1 ρ1 H1 w a1 b1 c1 h1 => ?_)⟩
    refine so φ ρ1 M1 σ H1 x0 d v w _ b1 (rv.ext a1) c1 (Post.bindS (e.ext a1) h1 fun z M2 ρ2 H2 u a2 b2 c2 h2 => ?_)
    exact h2 _ _ _ .refl b2 (((e.ext a1).ext a2).set c2)
  · exact h.elim
theorem opd_isub : OpD X W (inplaceOp .Sub) gSubI := opd_i iop_sub fun _ _ _ _ _ => .int _
end
end DL

namespace DL
open PySem L2

/-! ### what is walked -/
inductive OutI where
  | ok (ds : List D) (chk : Mem → Bool) (M : Mem)
  | ex (x : Exn) (M : Mem)
  | st
abbrev EvI := Env → Mem → OutI
/-- the iterator J gives the items ds, as long as the store is as chk says -/
def JW (K : Kx) (J : It) (ρ1 : List Addr) (H1 : Hp) (chk : Mem → Bool) (ds : List D) : Prop :=
  ∀ i ρ2 H2 M2, Ext ρ1 H1 ρ2 H2 → MOk K ρ2 M2 H2 → chk M2 = true →
    (∀ d, ds[i]? = some d → J.go i H2 ∧ ∀ x H', J.yld i H2 x H' → Ext ρ2 H2 ρ2 H' ∧ MOk K ρ2 M2 H' ∧ RD K ρ2 H' d x) ∧ (i = ds.length → J.stop i H2)
def PostI (K : Kx) (W : WX) (ρ : List Addr) (σ : L2.St) (H : Hp) (r : OutI) (R : It → Hp → Prop) : Prop := match r with
  | .ok ds chk M => ∀ ρ1 H1 J, Ext ρ H ρ1 H1 → MOk K ρ1 M H1 → chk M = true → (∀ φ', Hid K ⟨K.K, φ'⟩ H1 → JW ⟨K.K, φ'⟩ J ρ1 H1 chk ds) → R J H1
  | .ex x M => PostX K W ρ H x M σ
  | .st => False
def DI (X : Cx) (W : WX) (tg e : Expr) (f : EvI) : Prop := ∃ wi, PI X tg e wi ∧ ∀ φ ρ env M σ H R, RE ⟨X.K, φ⟩ ρ H env σ → MOk ⟨X.K, φ⟩ ρ M H → PostI ⟨X.K, φ⟩ W ρ σ H (f env M) R → wi σ H R
def Out.bindI (r : Out) (k : D → Mem → OutI) : OutI := match r with
  | .ok d M => k d M
  | .ex x M => .ex x M
  | .st => .st
def OutL.bindI (r : OutL) (k : List D → Mem → OutI) : OutI := match r with
  | .ok d M => k d M
  | .ex x M => .ex x M
  | .st => .st
/-! data that are the same, by a test -/
mutual
def eqbD : D → D → Bool
  | .non, .non => true
  | .bl a, .bl b => a == b
  | .int a, .int b => a == b
  | .str a, .str b => decide (a = b)
  | .tup a, .tup b => eqbDs a b
  | .itm a, .itm b => eqbDs a b
  | .lst a, .lst b => eqbDs a b
  | .fzl a, .fzl b => eqbDs a b
  | .ref a, .ref b => a == b
  | .glo a, .glo b => decide (a = b)
  | .ty a, .ty b => a == b
  | .inst c a, .inst d b => decide (c = d) && eqbFs a b
  | .dcv a, .dcv b => eqbKs a b
  | _, _ => false
termination_by structural x => x
def eqbDs : List D → List D → Bool
  | [], [] => true
  | a :: as, b :: bs => eqbD a b && eqbDs as bs
  | _, _ => false
termination_by structural x => x
def eqbFs : List (Str × D) → List (Str × D) → Bool
  | [], [] => true
  | a :: as, b :: bs => decide (a.1 = b.1) && eqbD a.2 b.2 && eqbFs as bs
  | _, _ => false
termination_by structural x => x
def eqbKs : List (Key × D) → List (Key × D) → Bool
  | [], [] => true
  | a :: as, b :: bs => decide (a.1 = b.1) && eqbD a.2 b.2 && eqbKs as bs
  | _, _ => false
termination_by structural x => x
end
mutual
theorem eqbD_ok : ∀ {a b : D}, eqbD a b = true → a = b
  | .non, b, h => by cases b <;> first | rfl | cases h
  | .bl a, b, h => by cases b <;> first | (simp [eqbD] at h; rw [h]) | (simp [eqbD] at h)
  | .int a, b, h => by cases b <;> first | (simp [eqbD] at h; rw [h]) | (simp [eqbD] at h)
  | .str a, b, h => by cases b <;> first | (simp [eqbD] at h; rw [h]) | (simp [eqbD] at h)
  | .tup a, b, h => by cases b <;> first | (simp [eqbD] at h; rw [eqbDs_ok h]) | (simp [eqbD] at h)
  | .itm a, b, h => by cases b <;> first | (simp [eqbD] at h; rw [eqbDs_ok h]) | (simp [eqbD] at h)
  | .lst a, b, h => by cases b <;> first | (simp [eqbD] at h; rw [eqbDs_ok h]) | (simp [eqbD] at h)
  | .fzl a, b, h => by cases b <;> first | (simp [eqbD] at h; rw [eqbDs_ok h]) | (simp [eqbD] at h)
  | .ref a, b, h => by cases b <;> first | (simp [eqbD] at h; rw [h]) | (simp [eqbD] at h)
  | .glo a, b, h => by cases b <;> first | (simp [eqbD] at h; rw [h]) | (simp [eqbD] at h)
  | .ty a, b, h => by cases b <;> first | (simp [eqbD] at h; rw [h]) | (simp [eqbD] at h)
  | .inst c a, b, h => by cases b <;> first | (simp [eqbD] at h; rw [h.1, eqbFs_ok h.2]) | (simp [eqbD] at h)
  | .dcv a, b, h => by cases b <;> first | (simp [eqbD] at h; rw [eqbKs_ok h]) | (simp [eqbD] at h)
theorem eqbDs_ok : ∀ {a b : List D}, eqbDs a b = true → a = b
  | [], b, h => by cases b <;> first | rfl | cases h
  | a :: as, b, h => by
    cases b with
    | nil => cases h
    | cons b bs => simp [eqbDs] at h; rw [eqbD_ok h.1, eqbDs_ok h.2]
theorem eqbFs_ok : ∀ {a b : List (Str × D)}, eqbFs a b = true → a = b
  | [], b, h => by cases b <;> first | rfl | cases h
  | (f, a) :: as, b, h => by
    cases b with
    | nil => cases h
    | cons b bs =>
      obtain ⟨g, b⟩ := b
      simp [eqbFs] at h
      rw [h.1.1, eqbD_ok h.1.2, eqbFs_ok h.2]
theorem eqbKs_ok : ∀ {a b : List (Key × D)}, eqbKs a b = true → a = b
  | [], b, h => by cases b <;> first | rfl | cases h
  | (f, a) :: as, b, h => by
    cases b with
    | nil => cases h
    | cons b bs =>
      obtain ⟨g, b⟩ := b
      simp [eqbKs] at h
      rw [h.1.1, eqbD_ok h.1.2, eqbKs_ok h.2]
end
mutual
theorem eqbD_refl : ∀ a : D, eqbD a a = true
  | .non => rfl
  | .bl a => by simp [eqbD]
  | .int a => by simp [eqbD]
  | .str a => by simp [eqbD]
  | .tup a => by simp [eqbD, eqbDs_refl a]
  | .itm a => by simp [eqbD, eqbDs_refl a]
  | .lst a => by simp [eqbD, eqbDs_refl a]
  | .fzl a => by simp [eqbD, eqbDs_refl a]
  | .ref a => by simp [eqbD]
  | .glo a => by simp [eqbD]
  | .ty a => by simp [eqbD]
  | .inst c a => by simp [eqbD, eqbFs_refl a]
  | .dcv a => by simp [eqbD, eqbKs_refl a]
theorem eqbDs_refl : ∀ a : List D, eqbDs a a = true
  | [] => rfl
  | a :: as => by simp [eqbDs, eqbD_refl a, eqbDs_refl as]
theorem eqbFs_refl : ∀ a : List (Str × D), eqbFs a a = true
  | [] => rfl
  | (f, a) :: as => by simp [eqbFs, eqbD_refl a, eqbFs_refl as]
theorem eqbKs_refl : ∀ a : List (Key × D), eqbKs a a = true
  | [] => rfl
  | (f, a) :: as => by simp [eqbKs, eqbD_refl a, eqbKs_refl as]
end
/-- the list at d stays as it is -/
def chkL (d : D) (xs : List D) : Mem → Bool := match d with
  | .ref l => fun M => match M[l]? with
    | some (.lst ys) => eqbDs ys xs
    | _ => false
  | _ => fun _ => true
theorem chkL_get {l : Nat} {xs : List D} {M : Mem} (h : chkL (.ref l) xs M = true) : M[l]? = some (.lst xs) := by
  have h' : (match M[l]? with | some (.lst ys) => eqbDs ys xs | _ => false) = true := h
  split at h'
  · rename_i q
    rw [q, eqbDs_ok h']
  · cases h'
theorem chkL_of {l : Nat} {xs : List D} {M : Mem} (h : M[l]? = some (.lst xs)) : chkL (.ref l) xs M = true := by
  show (match M[l]? with | some (.lst ys) => eqbDs ys xs | _ => false) = true
  rw [h]
  exact eqbDs_refl xs
abbrev cYes : Mem → Bool := fun _ => true
/-- for .. in a list -/
def iL (f : Ev) : EvI := fun env M => (f env M).bindI fun d M1 => match derefL M1 d with
  | some xs => .ok xs (chkL d xs) M1
  | none => .st
def iT (f : Ev) : EvI := fun env M => (f env M).bindI fun d M1 => match d with
  | .tup xs => .ok xs cYes M1
  | _ => .st
def rangeD (lo : Int) (n : Nat) : List D := (List.range n).map fun i => .int (lo + (i : Nat))
def inB (j : Int) : Bool := decide (-(2 ^ 62) ≤ j ∧ j < 2 ^ 62)
def iR1 (f : Ev) : EvI := fun env M => (f env M).bindI fun d M1 => match d with
  | .int j => if inB j then .ok (rangeD 0 j.toNat) cYes M1 else .st
  | _ => .st
def iR2 (fa fb : Ev) : EvI := fun env M => (fa env M).bindI fun d M1 => (fb env M1).bindI fun e M2 => match d, e with
  | .int i, .int j => if inB i && inB j then .ok (rangeD i (j - i).toNat) cYes M2 else .st
  | _, _ => .st
/-- enumerate(xs) -/
def enumD (xs : List D) : List D := (List.range xs.length).zipWith (fun i x => .itm [.int (i : Nat), x]) xs
def iEn (f : Ev) : EvI := fun env M => (f env M).bindI fun d M1 => match derefL M1 d with
  | some xs => .ok (enumD xs) (chkL d xs) M1
  | none => .st
/-- zip(xs, ys) of two lists -/
def zipD (xs ys : List D) : List D := xs.zipWith (fun x y => .itm [x, y]) ys
def iZp (fa fb : Ev) : EvI := fun env M => (fa env M).bindI fun d M1 => (fb env M1).bindI fun e M2 => match derefL M2 d, derefL M2 e with
  | some xs, some ys => .ok (zipD xs ys) (fun M => chkL d xs M && chkL e ys M) M2
  | _, _ => .st

section
variable {K : Kx} {W : WX} {ρ ρ' ρ1 ρ2 : List Addr} {σ : L2.St} {H H' H1 H2 : Hp} {env : Env} {M M1 M2 : Mem} {a p : Addr} {o u : HO}
theorem PostI.ext {r : OutI} {R : It → Hp → Prop} (e : Ext ρ H ρ1 H1) (h : PostI K W ρ σ H r R) : PostI K W ρ1 σ H1 r R := by
  cases r with
  | ok ds c M => exact fun ρ2 H2 J a b c d => h ρ2 H2 J (e.trans a) b c d
  | ex x M => exact PostX.ext e h
  | st => exact h
theorem PostI.bind {r : Out} {k : D → Mem → OutI} {R : It → Hp → Prop} {Q1 : VK} (h : PostI K W ρ σ H (r.bindI k) R)
    (f : ∀ d M ρ' H' v, Ext ρ H ρ' H' → MOk K ρ' M H' → RD K ρ' H' d v → PostI K W ρ' σ H' (k d M) R → Q1 v H') : Post K W ρ σ H r Q1 := by
  cases r with
  | ok d M => exact fun ρ' H' v a b c => f d M ρ' H' v a b c (PostI.ext a h)
  | ex x M => exact h
  | st => exact h
/-- a list that stays: read at any later time -/
theorem derefL_stay {d : D} {v : V} {ds : List D} (m : MOk K ρ M H) (r : RD K ρ H d v) (e : derefL M d = some ds) :
    ∃ a, v = .ref a ∧ (∃ xs, SqL K.K H a xs) ∧ chkL d ds M = true ∧ ∀ φ', Hid K ⟨K.K, φ'⟩ H → ∀ ρ2 H2 M2, Ext ρ H ρ2 H2 → MOk ⟨K.K, φ'⟩ ρ2 M2 H2 → chkL d ds M2 = true → ∃ xs, SqL K.K H2 a xs ∧ RDs ⟨K.K, φ'⟩ ρ2 H2 ds xs := by
  cases r with
  | lst h n r => cases e; exact ⟨_, rfl, ⟨_, .inl (.inl h)⟩, rfl, fun K' hh ρ2 H2 M2 ex m2 _ => ⟨_, .inl (.inl (ex.keep _ _ h n.1)), (r.hide hh).ext ex⟩⟩
  | fzl h r => cases e; exact ⟨_, rfl, ⟨_, h.sq⟩, rfl, fun K' hh ρ2 H2 M2 ex m2 _ => ⟨_, ((h.hide hh).ext ex).sq, (r.hide hh).ext ex⟩⟩
  | @ref l a h =>
    have e' : (match M[l]? with | some (.lst xs) => some xs | _ => none) = some ds := e
    split at e'
    · rename_i xs hx
      cases e'
      obtain ⟨u, hu, q⟩ := m.at_ _ _ _ hx h
      obtain ⟨ys, rfl, r⟩ := q
      refine ⟨_, rfl, ⟨_, .inl (.inl hu)⟩, chkL_of hx, fun K' hh ρ2 H2 M2 ex m2 c => ?_⟩
      obtain ⟨u2, hu2, q2⟩ := m2.at_ _ _ _ (chkL_get c) (get_pre ex h)
      obtain ⟨ys2, rfl, r2⟩ := q2
      exact ⟨_, .inl (.inl hu2), r2⟩
    · cases e'
  | _ => cases e
/-- two readings of one object agree: by the iterator's own word -/
theorem jw_list {ds : List D} {chk : Mem → Bool} (h : ∀ ρ2 H2 M2, Ext ρ1 H1 ρ2 H2 → MOk K ρ2 M2 H2 → chk M2 = true → ∃ xs, SqL K.K H2 a xs ∧ RDs K ρ2 H2 ds xs) : JW K (Itl K.K a) ρ1 H1 chk ds := by
  intro i ρ2 H2 M2 ex m c
  obtain ⟨xs, s, r⟩ := h ρ2 H2 M2 ex m c
  refine ⟨fun d hd => ?_, fun hi => ⟨xs, s, by rw [← r.length, hi]; exact Nat.le_refl _⟩⟩
  obtain ⟨v, hv, rv⟩ := r.get hd
  refine ⟨⟨xs, v, s, hv⟩, fun x H' y => ?_⟩
  obtain ⟨rfl, y⟩ := y
  have := y xs s
  rw [hv] at this
  cases this
  exact ⟨.refl, m, rv⟩
theorem jw_tup {ds : List D} {xs : List V} (h : SqTf K ρ1 H1 a xs) (r : RDs K ρ1 H1 ds xs) : JW K (Itt K.K a) ρ1 H1 cYes ds := by
  intro i ρ2 H2 M2 ex m c
  have s := (h.ext ex).sq
  have r := r.ext ex
  refine ⟨fun d hd => ?_, fun hi => ⟨xs, s, by rw [← r.length, hi]; exact Nat.le_refl _⟩⟩
  obtain ⟨v, hv, rv⟩ := r.get hd
  refine ⟨⟨xs, v, s, hv⟩, fun x H' y => ?_⟩
  obtain ⟨rfl, y⟩ := y
  have := y xs s
  rw [hv] at this
  cases this
  exact ⟨.refl, m, rv⟩
theorem jw_range {lo : Int} {n : Nat} : JW K (Itr lo n) ρ1 H1 cYes (rangeD lo n) := by
  intro i ρ2 H2 M2 ex m c
  refine ⟨fun d hd => ?_, fun hi => by unfold rangeD at hi; simp at hi; show n ≤ i; omega⟩
  unfold rangeD at hd
  rw [List.getElem?_map] at hd
  cases q : (List.range n)[i]? with
  | none => rw [q] at hd; cases hd
  | some j =>
    rw [q] at hd
    obtain ⟨h1, h2⟩ := List.getElem?_eq_some_iff.mp q
    simp at h1 h2
    subst h2
    cases hd
    refine ⟨h1, fun x H' y => ?_⟩
    obtain ⟨rfl, rfl⟩ := y
    exact ⟨.refl, m, .int _⟩
theorem jw_enum {ds : List D} {chk : Mem → Bool} (h : ∀ ρ2 H2 M2, Ext ρ1 H1 ρ2 H2 → MOk K ρ2 M2 H2 → chk M2 = true → ∃ xs, SqL K.K H2 a xs ∧ RDs K ρ2 H2 ds xs) : JW K (Ite K.K a) ρ1 H1 chk (enumD ds) := by
  intro i ρ2 H2 M2 ex m c
  obtain ⟨xs, s, r⟩ := h ρ2 H2 M2 ex m c
  refine ⟨fun d hd => ?_, fun hi => ⟨xs, s, by rw [← r.length]; unfold enumD at hi; simp at hi; omega⟩⟩
  unfold enumD at hd
  rw [List.getElem?_zipWith] at hd
  cases q2 : ds[i]? with
  | none => rw [q2] at hd; cases q1 : (List.range ds.length)[i]? <;> rw [q1] at hd <;> cases hd
  | some e =>
    have hl := (List.getElem?_eq_some_iff.mp q2).1
    rw [q2, List.getElem?_range hl] at hd
    cases hd
    obtain ⟨v, hv, rv⟩ := r.get q2
    refine ⟨⟨xs, v, s, hv⟩, fun x H' y => ?_⟩
    obtain ⟨T, z, rfl, hT, rfl, y⟩ := y
    have := y xs s
    rw [hv] at this
    cases this
    exact ⟨.new hT, m.new hT, new_itm m hT (.cons (.int _) (.cons rv .nil))⟩
end
section
variable {X : Cx} {W : WX} {pos p : Pos} {a b tg : Expr} {fa fb : Ev}
theorem inB_ok {j : Int} (h : inB j = true) : -(2 ^ 62) ≤ j ∧ j < 2 ^ 62 := of_decide_eq_true (p := -(2 ^ 62) ≤ j ∧ j < 2 ^ 62) h
theorem di_range1 (hg : Gl X "range") (hm : X.mg "range" = none) (ha : DE X W a fa) (hs : starEach [a] X.env = [(false, eval a X.env)] := by rfl) (hs2 : starEach [a] X.env = (false, eval a X.env) :: starEach [] X.env := by rfl) : DI X W tg (.Call (.Name "range" p) [a] [] pos) (iR1 fa) := by
  obtain ⟨ta, pa, sa⟩ := ha
  refine ⟨_, pi_range1 hg hm (pa_cons pa pa_nil hs2) hs, fun φ ρ env M σ H R e m h => ?_⟩
  refine sa φ ρ env M σ H _ e m (PostI.bind h fun d M1 ρ1 H1 v a1 b1 c1 h1 => ?_)
  cases c1 with
  | int j =>
    have h1 : PostI ⟨X.K, φ⟩ W ρ1 σ H1 (if inB j = true then .ok (rangeD 0 j.toNat) cYes M1 else .st) R := h1
    split at h1
    · rename_i z
      exact ⟨j, rfl, (inB_ok z).1, (inB_ok z).2, h1 _ _ _ .refl b1 rfl fun K' hh => jw_range⟩
    · exact h1.elim
  | _ => exact h1.elim
theorem di_range2 (hg : Gl X "range") (hm : X.mg "range" = none) (ha : DE X W a fa) (hb : DE X W b fb) (hs : starEach [a, b] X.env = [(false, eval a X.env), (false, eval b X.env)] := by rfl) (hs2 : starEach [b] X.env = [(false, eval b X.env)] := by rfl)
    (hs3 : starEach [a, b] X.env = (false, eval a X.env) :: starEach [b] X.env := by rfl) (hs4 : starEach [b] X.env = (false, eval b X.env) :: starEach [] X.env := by rfl) :
    DI X W tg (.Call (.Name "range" p) [a, b] [] pos) (iR2 fa fb) := by
  obtain ⟨ta, pa, sa⟩ := ha
  obtain ⟨tb, pb, sb⟩ := hb
  refine ⟨_, pi_range2 hg hm (pa_cons pa (pa_cons pb pa_nil hs4) hs3) hs hs2, fun φ ρ env M σ H R e m h => ?_⟩
  refine sa φ ρ env M σ H _ e m (PostI.bind h fun d M1 ρ1 H1 v a1 b1 c1 h1 => ?_)
  refine sb φ ρ1 env M1 σ H1 _ (e.ext a1) b1 (PostI.bind h1 fun d2 M2 ρ2 H2 v2 a2 b2 c2 h2 => ?_)
  cases c1.ext a2 with
  | int i =>
    cases c2 with
    | int j =>
      have h2 : PostI ⟨X.K, φ⟩ W ρ2 σ H2 (if (inB i && inB j) = true then .ok (rangeD i (j - i).toNat) cYes M2 else .st) R := h2
      split at h2
      · rename_i z
        simp only [Bool.and_eq_true] at z
        exact ⟨i, j, rfl, ⟨(inB_ok z.1).1, (inB_ok z.1).2, (inB_ok z.2).1, (inB_ok z.2).2⟩, h2 _ _ _ .refl b2 rfl fun K' hh => jw_range⟩
      · exact h2.elim
    | _ => exact h2.elim
  | _ => cases c2 <;> exact h2.elim
end

/-! ### for -/
def wipeE (env : Env) : List Nat → Env
  | [] => env
  | v :: vs => (wipeE env vs).set v none
theorem RE.drop1 {K : Kx} {ρ : List Addr} {H : Hp} {env : Env} {σ : L2.St} {i : Nat} (h : RE K ρ H env σ) : RE K ρ H (env.set i none) σ := by
  unfold RE at h ⊢; induction h generalizing i with
  | nil => exact .nil
  | cons a b ih =>
    cases i with
    | zero => exact .cons (fun d' e => by cases e) b
    | succ i => exact .cons a ih
/-- slots forgotten -/
theorem RE.forget {K : Kx} {ρ : List Addr} {H : Hp} {env : Env} {σ : L2.St} (h : RE K ρ H env σ) : ∀ vs, RE K ρ H (wipeE env vs) σ
  | [] => h
  | v :: vs => (h.forget vs).drop1
/-- dead: the slots that no one reads behind the head of the loop -/
def forD (dead : List Nat) (chk : Mem → Bool) (g : Tg) (body : Sx) : List D → Env → Mem → OutS
  | [], env, M => if chk M then .nx (wipeE env dead) M else .st
  | d :: ds, env, M => if chk M then
      match g d (wipeE env dead) M with
      | .nx e1 M1 => match body e1 M1 with
        | .nx e2 M2 => forD dead chk g body ds e2 M2
        | .ct e2 M2 => forD dead chk g body ds e2 M2
        | .bk e2 M2 => .nx (wipeE e2 dead) M2
        | .rt d M2 => .rt d M2
        | .ex x e2 M2 => .ex x e2 M2
        | .st => .st
      | _ => .st
    else .st
def sFor (dead : List Nat) (fi : EvI) (g : Tg) (body : Sx) : Sx := fun env M => match fi env M with
  | .ok ds chk M1 => forD dead chk g body ds env M1
  | .ex x M1 => .ex x env M1
  | .st => .st
section
variable {X : Cx} {W : WX} {pos p : Pos} {it tg : Expr} {fi : EvI} {g : Tg} {fb : Sx} {body : List Stmt}
theorem ds_for (dead : List Nat) (hp : PassesOwn (model X.prog X.w) X.A X.env X.xe) (hc : X.calm = true) (hi : DI X W tg it fi) (hg : DG X tg g) (hb : DB X W body fb) (hs : ∀ x, foldedSetIterable it X.env x = pure x := by intro _; rfl) : DS X W (.For tg it body [] pos) (sFor dead fi g fb) := by
  obtain ⟨wi, pi, si⟩ := hi
  obtain ⟨tg', pg, sg⟩ := hg
  obtain ⟨tb, pb, sb⟩ := hb
  refine ⟨_, ps_for hp hc pi pg pb hs, fun φ ρ env M σ H E e m h => ?_⟩
  refine si φ ρ env M σ H _ e m ?_
  unfold sFor at h
  cases q : fi env M with
  | ex x M1 => rw [q] at h; exact fun ρ' H' dx a b c => h ρ' H' σ dx a b (e.ext a) c
  | st => rw [q] at h; exact h.elim
  | ok ds chk M1 =>
    rw [q] at h
    intro ρ1 H1 J a1 b1 ck1 jw0
    have jw := jw0 φ .refl
    refine ⟨fun i n σ' H' => n = ds.length - i ∧ i ≤ ds.length ∧ ∃ ρ' env' M', Ext ρ1 H1 ρ' H' ∧ MOk ⟨X.K, φ⟩ ρ' M' H' ∧ RE ⟨X.K, φ⟩ ρ' H' env' σ' ∧ PostS ⟨X.K, φ⟩ W ρ' H' (forD dead chk g fb (ds.drop i) env' M') E,
      ⟨ds.length, by simp, Nat.zero_le _, ρ1, env, M1, .refl, b1, e.ext a1, PostS.ext a1 (by simpa using h)⟩, ?_⟩
    rintro i n σ2 H2 ⟨rfl, hi, ρ2, env2, M2, ex2, m2, e2, h2⟩
    by_cases hlt : i < ds.length
    · rw [List.drop_eq_getElem_cons hlt] at h2
      unfold forD at h2
      split at h2
      · rename_i ck2
        obtain ⟨jg, js⟩ := jw i ρ2 H2 M2 ex2 m2 ck2
        obtain ⟨go, yl⟩ := jg ds[i] (by simp [hlt])
        refine .inr ⟨go, fun σ' H' => ∃ ρ' env' M', Ext ρ1 H1 ρ' H' ∧ MOk ⟨X.K, φ⟩ ρ' M' H' ∧ RE ⟨X.K, φ⟩ ρ' H' env' σ' ∧ PostS ⟨X.K, φ⟩ W ρ' H' (forD dead chk g fb (ds.drop (i + 1)) env' M') E,
          fun σ' H' z => ⟨ds.length - (i + 1), by omega, rfl, hlt, z⟩, fun x H3 y => ?_⟩
        obtain ⟨ex3, m3, r3⟩ := yl x H3 y
        refine sg φ ρ2 (wipeE env2 dead) M2 σ2 H3 ds[i] x _ ((e2.ext ex3).forget dead) m3 r3 ?_
        cases qg : g ds[i] (wipeE env2 dead) M2 with
        | nx e4 M4 =>
          rw [qg] at h2
          intro ρ4 H4 σ4 a4 b4 c4
          refine sb φ ρ4 e4 M4 σ4 H4 _ c4 b4 ?_
          have h2 := PostS.ext (ex3.trans a4) h2
          have ex4 := ex2.trans (ex3.trans a4)
          cases qb : fb e4 M4 with
          | nx e5 M5 =>
            simp only [qb] at h2
            exact fun ρ5 H5 σ5 a5 b5 c5 => ⟨ρ5, e5, M5, ex4.trans a5, b5, c5, PostS.ext a5 h2⟩
          | ct e5 M5 =>
            simp only [qb] at h2
            exact fun ρ5 H5 σ5 a5 b5 c5 => ⟨ρ5, e5, M5, ex4.trans a5, b5, c5, PostS.ext a5 h2⟩
          | bk e5 M5 => simp only [qb] at h2; exact fun ρ5 H5 σ5 a5 b5 c5 => h2 ρ5 H5 σ5 a5 b5 (c5.forget dead)
          | rt d M5 => simp only [qb] at h2; exact h2
          | ex x e5 M5 => simp only [qb] at h2; exact h2
          | st => simp only [qb] at h2; exact h2.elim
        | _ => rw [qg] at h2; exact h2.elim
      · exact h2.elim
    · have hi' : i = ds.length := by omega
      subst hi'
      rw [List.drop_length] at h2
      unfold forD at h2
      split at h2
      · rename_i ck2
        exact .inl ⟨(jw _ ρ2 H2 M2 ex2 m2 ck2).2 rfl, h2 _ _ _ .refl m2 (e2.forget dead)⟩
      · exact h2.elim
end
end DL

namespace DL
open PySem L2

/-! ### one reading for all contexts -/
def tOf (K : PySem.W.Frag) (W : WX) (f : Ev) : TE := fun σ H Q => ∃ φ ρ env M, RE ⟨K, φ⟩ ρ H env σ ∧ MOk ⟨K, φ⟩ ρ M H ∧ Post ⟨K, φ⟩ W ρ σ H (f env M) Q
def tOfT (K : PySem.W.Frag) (W : WX) (f : Ev) : TT := fun σ H Q => ∃ φ ρ env M, RE ⟨K, φ⟩ ρ H env σ ∧ MOk ⟨K, φ⟩ ρ M H ∧ PostT ⟨K, φ⟩ W ρ σ H (f env M) Q
theorem DE.canon {X : Cx} {W : WX} {e : Expr} {f : Ev} (h : DE X W e f) : PE X e (tOf X.K W f) := by
  obtain ⟨t, p, s⟩ := h
  exact ⟨fun pins st σ H Q I ⟨φ, ρ, env, M, a, b, c⟩ => p.run pins st σ H Q I (s φ ρ env M σ H Q a b c)⟩
theorem DT.canon {X : Cx} {W : WX} {e : Expr} {f : Ev} (h : DT X W e f) : PT X e (tOfT X.K W f) := by
  obtain ⟨t, p, s⟩ := h
  exact ⟨fun pins st σ H Q I ⟨φ, ρ, env, M, a, b, c⟩ => p.run pins st σ H Q I (s φ ρ env M σ H Q a b c)⟩
/-- targets that touch the slots vs alone -/
def PostGv (K : Kx) (vs : List Nat) (ρ : List Addr) (σ : L2.St) (H : Hp) (r : OutS) (Q : L2.St → Hp → Prop) : Prop := match r with
  | .nx e M => ∀ ρ' H' σ', Ext ρ H ρ' H' → MOk K ρ' M H' → RE K ρ' H' e σ' → (∀ i, i ∉ vs → σ'[i]? = σ[i]?) → σ'.length = σ.length → Q σ' H'
  | _ => False
def DGv (X : Cx) (vs : List Nat) (e : Expr) (f : Tg) : Prop := ∃ t, PG X e t ∧ ∀ φ ρ env M σ H d v Q, RE ⟨X.K, φ⟩ ρ H env σ → MOk ⟨X.K, φ⟩ ρ M H → RD ⟨X.K, φ⟩ ρ H d v → PostGv ⟨X.K, φ⟩ vs ρ σ H (f d env M) Q → t v σ H Q
def DGsv (X : Cx) (vs : List Nat) (es : List Expr) (f : TgL) : Prop := ∃ t, PGs X es t ∧ ∀ φ ρ env M σ H ds ws Q, RE ⟨X.K, φ⟩ ρ H env σ → MOk ⟨X.K, φ⟩ ρ M H → RDs ⟨X.K, φ⟩ ρ H ds ws → PostGv ⟨X.K, φ⟩ vs ρ σ H (f ds env M) Q → t ws σ H Q
def tOfG (K : PySem.W.Frag) (vs : List Nat) (f : Tg) : TG := fun v σ H Q => ∃ φ ρ env M d, RE ⟨K, φ⟩ ρ H env σ ∧ MOk ⟨K, φ⟩ ρ M H ∧ RD ⟨K, φ⟩ ρ H d v ∧ PostGv ⟨K, φ⟩ vs ρ σ H (f d env M) Q
theorem DGv.canon {X : Cx} {vs : List Nat} {e : Expr} {f : Tg} (h : DGv X vs e f) : PG X e (tOfG X.K vs f) := by
  obtain ⟨t, p, s⟩ := h
  exact ⟨fun pins st σ H v u Q I r ⟨φ, ρ, env, M, d, a, b, c, q⟩ => p.run pins st σ H v u Q I r (s φ ρ env M σ H d v Q a b c q)⟩
section
variable {X : Cx} {W : WX} {pos : Pos} {a : Expr} {es : List Expr} {g : Tg} {gs : TgL} {vs : List Nat}
theorem dgv_name (i : Nat) {x : Str} (hN : X.N.Nodup) (hv : i ∈ vs := by decide) (hi : X.N[i]? = some x := by rfl) (hx : Loc X.env.scope x := by first | exact .inl rfl | exact .inr rfl) (hf : X.fn x = true ∨ X.env.scope.names.lookup x = some .local := by first | exact .inl rfl | exact .inr rfl) : DGv X vs (.Name x pos) (gN i) :=
  ⟨_, pg_name hN hi hx hf, fun φ ρ env M σ H d v Q e m r h => h _ _ _ .refl m (e.set r) (fun j hj => List.getElem?_set_ne (fun z => hj (by rw [← z]; exact hv))) (List.length_set ..)⟩
theorem dgsv_nil : DGsv X vs [] gsNil := ⟨_, pgs_nil, fun φ ρ env M σ H ds ws Q e m r h => by
  cases r with
  | nil => exact ⟨rfl, h _ _ _ .refl m e (fun _ _ => rfl) rfl⟩
  | cons _ _ => exact h.elim⟩
theorem dgsv_cons (h1 : DGv X vs a g) (h2 : DGsv X vs es gs) (hs : (assignEach (a :: es) X.env).map (·.2) = assign a X.env :: (assignEach es X.env).map (·.2) := by rfl) : DGsv X vs (a :: es) (gsCons g gs) := by
  obtain ⟨t1, p1, s1⟩ := h1
  obtain ⟨t2, p2, s2⟩ := h2
  refine ⟨_, pgs_cons p1 p2 hs, fun φ ρ env M σ H ds ws Q e m r h => ?_⟩
  cases r with
  | nil => exact h.elim
  | @cons d ds' v ws' r rr =>
    refine ⟨_, _, rfl, s1 φ ρ env M σ H d v _ e m r ?_⟩
    have h' : PostGv ⟨X.K, φ⟩ vs ρ σ H (match g d env M with | .nx e1 M1 => gs ds' e1 M1 | _ => .st) Q := h
    cases hg : g d env M with
    | nx e1 M1 =>
      rw [hg] at h'
      intro ρ1 H1 σ1 a1 b1 c1 f1 l1
      refine s2 φ ρ1 e1 M1 σ1 H1 _ _ Q c1 b1 (rr.ext a1) ?_
      have h' : PostGv ⟨X.K, φ⟩ vs ρ σ H (gs ds' e1 M1) Q := h'
      cases hq : gs ds' e1 M1 with
      | nx e2 M2 =>
        rw [hq] at h'
        exact fun ρ2 H2 σ2 a2 b2 c2 f2 l2 => h' ρ2 H2 σ2 (a1.trans a2) b2 c2 (fun i hi => (f2 i hi).trans (f1 i hi)) (l2.trans l1)
      | _ => rw [hq] at h'; exact h'.elim
    | _ => rw [hg] at h'; exact h'.elim
theorem dgv_tup {k : Nat} (hc : X.calm = true) (h : DGsv X vs es gs) (n : Nat) (hn : (assignEach es X.env).length = n := by rfl) (hst : (assignEach es X.env).findIdx? (·.1) = none := by rfl) : DGv X vs (.Tuple es k pos) (gT n gs) := by
  obtain ⟨t, p, s⟩ := h
  refine ⟨_, pg_seq hc p hn hst, fun φ ρ env M σ H d v Q e m r h => ?_⟩
  have lst : ∀ ds, derefL M d = some ds → PostGv ⟨X.K, φ⟩ vs ρ σ H (if ds.length = n then gs ds env M else .st) Q → gSeq X.K n t v σ H Q := fun ds hx h' => by
    obtain ⟨a, xs, rfl, q, rr⟩ := derefL_ok m r hx
    split at h'
    · rename_i z
      exact ⟨a, xs, rfl, .inr q, by rw [← rr.length]; exact z, s φ ρ env M σ H _ _ Q e m rr h'⟩
    · exact h'.elim
  cases r with
  | @tup ds a xs hh rr =>
    have h' : PostGv ⟨X.K, φ⟩ vs ρ σ H (if ds.length = n then gs ds env M else .st) Q := h
    split at h'
    · rename_i z
      exact ⟨_, _, rfl, .inl hh.sq, by rw [← rr.length]; exact z, s φ ρ env M σ H _ _ Q e m rr h'⟩
    · exact h'.elim
  | @itm ds a xs hh nn rr =>
    have h' : PostGv ⟨X.K, φ⟩ vs ρ σ H (if ds.length = n then gs ds env M else .st) Q := h
    split at h'
    · rename_i z
      exact ⟨_, _, rfl, .inl (.inl (.inl hh)), by rw [← rr.length]; exact z, s φ ρ env M σ H _ _ Q e m rr h'⟩
    · exact h'.elim
  | @lst ds a xs hh nn rr => exact lst ds rfl h
  | @fzl ds a xs hh rr => exact lst ds rfl h
  | @ref l q hq =>
    have h' : PostGv ⟨X.K, φ⟩ vs ρ σ H (match derefL M (.ref l) with | some ds => if ds.length = n then gs ds env M else .st | none => .st) Q := h
    split at h'
    · rename_i ds hx; exact lst ds hx h'
    · exact h'.elim
  | _ => exact h.elim
end
theorem wipe_get (σ : L2.St) : ∀ (vs : List Nat) (i : Nat), (wipe σ vs)[i]? = if i ∈ vs then (if i < σ.length then some none else none) else σ[i]?
  | [], i => by simp [wipe]
  | v :: vs, i => by
    unfold wipe
    by_cases e : v = i
    · subst e
      rw [List.getElem?_set]
      simp [wipe_length]
    · rw [List.getElem?_set_ne e, wipe_get σ vs i]
      have : i ∈ v :: vs ↔ i ∈ vs := by simp [Ne.symm e]
      simp only [this]
theorem wipe_same {σ σ' : L2.St} {vs : List Nat} (h : ∀ i, i ∉ vs → σ'[i]? = σ[i]?) (l : σ'.length = σ.length) : wipe σ' vs = wipe σ vs := by
  apply List.ext_getElem?
  intro i
  rw [wipe_get, wipe_get, l]
  by_cases e : i ∈ vs
  · rw [if_pos e, if_pos e]
  · rw [if_neg e, if_neg e]; exact h i e
theorem wipe_wipe {σ : L2.St} {vs : List Nat} : wipe (wipe σ vs) vs = wipe σ vs := wipe_same (fun i hi => by rw [wipe_get, if_neg hi]) (wipe_length _ _)
theorem RE.wipe {K : Kx} {ρ : List Addr} {H : Hp} {env : Env} {σ : L2.St} (h : RE K ρ H env σ) : ∀ vs, RE K ρ H (wipeE env vs) (wipe σ vs)
  | [] => h
  | v :: vs => RE.wipe1 (h.wipe vs)

/-! ### list comprehensions -/
/-- tests -/
def fYes : Ev := fun _ M => .ok (.bl true) M
def DTs (X : Cx) (W : WX) (ifs : List Expr) (f : Ev) : Prop := ∃ t, PTs X ifs t ∧ ∀ φ ρ env M σ H Q, RE ⟨X.K, φ⟩ ρ H env σ → MOk ⟨X.K, φ⟩ ρ M H → PostT ⟨X.K, φ⟩ W ρ σ H (f env M) Q → t σ H Q
theorem DTs.canon {X : Cx} {W : WX} {e : List Expr} {f : Ev} (h : DTs X W e f) : PTs X e (tOfT X.K W f) := by
  obtain ⟨t, p, s⟩ := h
  exact ⟨fun pins st σ H Q I ⟨φ, ρ, env, M, a, b, c⟩ => p.run pins st σ H Q I (s φ ρ env M σ H Q a b c)⟩
theorem dts_nil {X : Cx} {W : WX} : DTs X W [] fYes := ⟨_, pts_nil, fun φ ρ env M σ H Q e m h => h _ _ .refl m⟩
theorem dts_one {X : Cx} {W : WX} {c : Expr} {f : Ev} (h : DT X W c f) : DTs X W [c] f := by
  obtain ⟨t, p, s⟩ := h
  exact ⟨_, pts_one p, s⟩
/-- nothing is raised -/
abbrev W0 : WX := fun _ _ _ _ => False
def compD (chk : Mem → Bool) (g : Tg) (ft fe : Ev) (env : Env) : List D → Mem → OutL
  | [], M => if chk M then .ok [] M else .st
  | d :: ds, M => if chk M then
      match g d env M with
      | .nx e1 M1 => match ft e1 M1 with
        | .ok (.bl true) M2 => match fe e1 M2 with
          | .ok y M3 => (compD chk g ft fe env ds M3).bindL fun ys M4 => .ok (y :: ys) M4
          | _ => .st
        | .ok (.bl false) M2 => compD chk g ft fe env ds M2
        | _ => .st
      | _ => .st
    else .st
def eLc (vs : List Nat) (fi : EvI) (g : Tg) (ft fe : Ev) : Ev := fun env M => match fi env M with
  | .ok ds chk M1 => if ds.length ≤ sizeLine then (compD chk g ft fe (wipeE env vs) ds M1).bind fun ys M2 => .ok (.lst ys) M2 else .st
  | .ex x M1 => .ex x M1
  | .st => .st
theorem OutL.bindL_ok {r : OutL} {k : List D → Mem → OutL} {ds : List D} {M : Mem} (h : r.bindL k = .ok ds M) : ∃ d1 M1, r = .ok d1 M1 ∧ k d1 M1 = .ok ds M := by
  cases r with
  | ok d M1 => exact ⟨d, M1, rfl, h⟩
  | ex x M => cases h
  | st => cases h
theorem Ext.hidden {ρ ρ' : List Addr} {H H' : Hp} {a : Addr} {w : HO} (e : Ext ρ H ρ' H') (h : H a = none) : Ext ρ H ρ' (upd H' a w) :=
  ⟨e.pre, fun b o q n => by rw [upd_ne (ne_of_none q h)]; exact e.keep b o q n, fun b q => by
    by_cases z : b = a
    · subst z; rw [upd_same] at q; cases q
    · rw [upd_ne z] at q; exact e.live b q⟩
theorem Hid.less {K : Kx} {φ : List Addr} {a : Addr} {H : Hp} : Hid ⟨K.K, a :: K.φ⟩ K H := ⟨rfl, fun b h => .inl (List.mem_cons_of_mem _ h)⟩
/-- what is made so far, what is still to come -/
structure LcI (K : Kx) (chk : Mem → Bool) (g : Tg) (ft fe : Ev) (env : Env) (ds : List D) (ρ1 : List Addr) (H1 : Hp) (Dd : Addr) (ys : List D) (Mf : Mem) (i : Nat) (H : Hp) : Prop where
  le : i ≤ ds.length
  ex : ∃ ρ' M' done rest acc, Ext ρ1 H1 ρ' H ∧ MOk ⟨K.K, Dd :: K.φ⟩ ρ' M' H ∧ H Dd = some (.lst acc) ∧ Dd ∉ ρ' ∧ RDs ⟨K.K, Dd :: K.φ⟩ ρ' H done acc ∧ done.length ≤ i ∧ ys = done ++ rest ∧ compD chk g ft fe env (ds.drop i) M' = .ok rest Mf
theorem lc_soundG {K : Kx} {g : Tg} {ft fe : Ev} {vs : List Nat} {J : It} {ρ1 : List Addr} {σ : L2.St} {H1 : Hp} {chk : Mem → Bool} {ds : List D} {env : Env} {M1 : Mem} {Dd : Addr} {Q : VK}
    (hz : ds.length ≤ sizeLine) (b1 : MOk K ρ1 M1 H1) (jw : ∀ φ', Hid K ⟨K.K, φ'⟩ H1 → JW ⟨K.K, φ'⟩ J ρ1 H1 chk ds) (he : RE K ρ1 H1 env (wipe σ vs)) (hD : H1 Dd = none) {ys : List D} {Mf : Mem} (hc : compD chk g ft fe env ds M1 = .ok ys Mf)
    (h : ∀ ρ' H' a acc, Ext ρ1 H1 ρ' H' → MOk K ρ' Mf H' → H1 a = none → H' a = some (.lst acc) → a ∉ ρ' → a ∉ K.φ → RDs K ρ' H' ys acc → MOk ⟨K.K, a :: K.φ⟩ ρ' Mf H' → RDs ⟨K.K, a :: K.φ⟩ ρ' H' ys acc → Q (.ref a) H') :
    ∃ Wv : Nat → Nat → Hp → Prop, (∃ m, Wv 0 m (upd H1 Dd (.lst []))) ∧ ∀ i m H, Wv i m H → (J.stop i H ∧ Q (.ref Dd) H) ∨ (J.go i H ∧ ∃ Nx : Hp → Prop, (∀ H', Nx H' → ∃ m', m' < m ∧ Wv (i + 1) m' H') ∧
      ∀ x H', J.yld i H x H' → tOfG K.K vs g x (wipe σ vs) H' fun σ2 H2 => wipe σ2 vs = wipe σ vs ∧ tOfT K.K W0 ft σ2 H2 fun b H3 => if b = true then tOf K.K W0 fe σ2 H3 fun y H4 => ∃ acc, H4 Dd = some (.lst acc) ∧ acc.length < sizeLine ∧ Nx (upd H4 Dd (.lst (acc ++ [y]))) else Nx H3) := by
  have ex0 : Ext ρ1 H1 ρ1 (upd H1 Dd (.lst [])) := .new hD
  have hid0 : Hid K ⟨K.K, Dd :: K.φ⟩ H1 := ⟨rfl, fun a z => by
    rcases List.mem_cons.mp z with rfl | z
    · exact .inr hD
    · exact .inl z⟩
  have jw := jw (Dd :: K.φ) hid0
  have he := he.hide hid0
  have fr := b1.fresh hD
  have m0 : MOk ⟨K.K, Dd :: K.φ⟩ ρ1 M1 (upd H1 Dd (.lst [])) := by
    have q := b1.new (o := .lst []) hD
    refine ⟨q.nd, q.len, fun a z => ?_, fun l ob a h1 h2 => ?_⟩
    · rcases List.mem_cons.mp z with rfl | z
      · exact ⟨_, upd_same, trivial⟩
      · exact q.hid a z
    · obtain ⟨u, hu, r⟩ := b1.at_ l ob a h1 h2
      exact ⟨u, by rw [upd_ne (ne_of_none hu hD)]; exact hu, (r.hide hid0).ext ex0⟩
  have hm : Dd ∈ (⟨K.K, Dd :: K.φ⟩ : Kx).φ := List.mem_cons_self
  refine ⟨fun i m H => m = ds.length - i ∧ LcI K chk g ft fe env ds ρ1 H1 Dd ys Mf i H, ⟨ds.length, by simp, Nat.zero_le _, ρ1, M1, [], ys, [], ex0, m0, upd_same, fr.1, .nil, Nat.le_refl _, rfl, by simpa using hc⟩, ?_⟩
  rintro i m H2 ⟨rfl, hi, ρ2, M2, dn, rs, acc, ex2, m2, hacc, hn, rd, hl, rfl, hc2⟩
  by_cases hlt : i < ds.length
  · rw [List.drop_eq_getElem_cons hlt] at hc2
    unfold compD at hc2
    split at hc2
    · rename_i ck
      obtain ⟨jg, _⟩ := jw i ρ2 H2 M2 ex2 m2 ck
      obtain ⟨go, yl⟩ := jg ds[i] (by simp [hlt])
      refine .inr ⟨go, LcI K chk g ft fe env ds ρ1 H1 Dd (dn ++ rs) Mf (i + 1), fun H' z => ⟨ds.length - (i + 1), by omega, rfl, z⟩, fun x H3 y => ?_⟩
      obtain ⟨ex3, m3, r3⟩ := yl x H3 y
      refine ⟨Dd :: K.φ, ρ2, env, M2, ds[i], (he.ext ex2).ext ex3, m3, r3, ?_⟩
      split at hc2
      · rename_i e4 M4 qg
        rw [qg]
        intro ρ4 H4 σ4 a4 b4 c4 f4 l4
        refine ⟨by rw [wipe_same f4 l4, wipe_wipe], Dd :: K.φ, ρ4, e4, M4, c4, b4, ?_⟩
        have ex4 := ex3.trans a4
        split at hc2
        · -- kept
          rename_i M5 qt
          rw [qt]
          intro ρ5 H5 a5 b5
          refine iteT ⟨Dd :: K.φ, ρ5, e4, M5, c4.ext a5, b5, ?_⟩
          split at hc2
          · rename_i y0 M6 qe
            rw [qe]
            intro ρ6 H6 v6 a6 b6 c6
            have ex6 := ex4.trans (a5.trans a6)
            have hD6 : H6 Dd = some (.lst acc) := ex6.keep _ _ hacc hn
            have hn6 : Dd ∉ ρ6 := ex6.nin hacc hn
            obtain ⟨rs1, M7, q7, e7⟩ := OutL.bindL_ok hc2
            cases e7
            refine ⟨acc, hD6, by rw [← rd.length]; omega, ?_⟩
            exact ⟨hlt, ρ6, M6, dn ++ [y0], rs1, acc ++ [v6], (ex2.trans ex6).hidden hD, b6.hid' hm hn6 trivial, upd_same, hn6, ((rd.ext ex6).hid hm).append (.cons (c6.hid hm) .nil), by simp; omega, by simp, q7⟩
          · cases hc2
        · -- left out
          rename_i M5 qt
          rw [qt]
          intro ρ5 H5 a5 b5
          have ex5 := ex4.trans a5
          exact iteF ⟨hlt, ρ5, M5, dn, rs, acc, ex2.trans ex5, b5, ex5.keep _ _ hacc hn, ex5.nin hacc hn, rd.ext ex5, by omega, rfl, hc2⟩
        · cases hc2
      · cases hc2
    · cases hc2
  · have hi' : i = ds.length := by omega
    subst hi'
    rw [List.drop_length] at hc2
    unfold compD at hc2
    split at hc2
    · rename_i ck
      cases hc2
      rw [List.append_nil] at h
      have less : Hid ⟨K.K, Dd :: K.φ⟩ K H2 := Hid.less (φ := K.φ)
      have mf := m2.hide less fun a z => m2.hid a (List.mem_cons_of_mem _ z)
      have nd : Dd ∉ K.φ := fr.2
      exact .inl ⟨(jw _ ρ2 H2 _ ex2 m2 ck).2 rfl, h _ _ _ _ ex2 mf hD hacc hn nd (rd.hide less) m2 rd⟩
    · cases hc2
theorem lc_sound {K : Kx} {g : Tg} {ft fe : Ev} {vs : List Nat} {J : It} {ρ1 : List Addr} {σ : L2.St} {H1 : Hp} {chk : Mem → Bool} {ds : List D} {env : Env} {M1 : Mem} {Dd : Addr} {Q : VK}
    (hz : ds.length ≤ sizeLine) (b1 : MOk K ρ1 M1 H1) (jw : ∀ φ', Hid K ⟨K.K, φ'⟩ H1 → JW ⟨K.K, φ'⟩ J ρ1 H1 chk ds) (he : RE K ρ1 H1 env (wipe σ vs)) (hD : H1 Dd = none) {ys : List D} {Mf : Mem} (hc : compD chk g ft fe env ds M1 = .ok ys Mf)
    (h : ∀ ρ' H' v, Ext ρ1 H1 ρ' H' → MOk K ρ' Mf H' → RD K ρ' H' (.lst ys) v → Q v H') :
    ∃ Wv : Nat → Nat → Hp → Prop, (∃ m, Wv 0 m (upd H1 Dd (.lst []))) ∧ ∀ i m H, Wv i m H → (J.stop i H ∧ Q (.ref Dd) H) ∨ (J.go i H ∧ ∃ Nx : Hp → Prop, (∀ H', Nx H' → ∃ m', m' < m ∧ Wv (i + 1) m' H') ∧
      ∀ x H', J.yld i H x H' → tOfG K.K vs g x (wipe σ vs) H' fun σ2 H2 => wipe σ2 vs = wipe σ vs ∧ tOfT K.K W0 ft σ2 H2 fun b H3 => if b = true then tOf K.K W0 fe σ2 H3 fun y H4 => ∃ acc, H4 Dd = some (.lst acc) ∧ acc.length < sizeLine ∧ Nx (upd H4 Dd (.lst (acc ++ [y]))) else Nx H3) := lc_soundG hz b1 jw he hD hc fun ρ' H' a acc ex m _ h1 h2 h3 r _ _ => h ρ' H' _ ex m (.lst h1 ⟨h2, h3⟩ r)
theorem comp_noex {chk : Mem → Bool} {g : Tg} {ft fe : Ev} {env : Env} : ∀ (ds : List D) (M1 : Mem) (x : Exn) (Mf : Mem), compD chk g ft fe env ds M1 ≠ .ex x Mf := by
  intro ds
  induction ds with
  | nil => intro M1 x Mf z; unfold compD at z; split at z <;> cases z
  | cons d ds ih =>
    intro M1 x Mf z
    unfold compD at z
    split at z
    · split at z
      · split at z
        · split at z
          · rename_i M6 qe
            cases qq : compD chk g ft fe env ds M6 with
            | ok a b => rw [qq] at z; cases z
            | ex a b => exact ih _ _ _ qq
            | st => rw [qq] at z; cases z
          · cases z
        · exact ih _ _ _ z
        · cases z
      · cases z
    · cases z
/-- a list by value, made anew, is put into the store -/
def eLcN (vs : List Nat) (fi : EvI) (g : Tg) (ft fe : Ev) : Ev := fun env M => match fi env M with
  | .ok ds chk M1 => if ds.length ≤ sizeLine then (compD chk g ft fe (wipeE env vs) ds M1).bind fun ys M2 => .ok (.ref M2.length) (M2 ++ [.lst ys]) else .st
  | .ex x M1 => .ex x M1
  | .st => .st
theorem Ext.more {ρ ρ' : List Addr} {H H' : Hp} {a : Addr} (e : Ext ρ H ρ' H') (h : H a = none) : Ext ρ H (ρ' ++ [a]) H' := by
  obtain ⟨t, ht, hn⟩ := e.pre
  refine ⟨⟨t ++ [a], by rw [ht, List.append_assoc], fun b hb => ?_⟩, e.keep, e.live⟩
  rcases List.mem_append.mp hb with z | z
  · exact hn b z
  · obtain rfl := List.mem_singleton.mp z
    exact h
section
variable {K : Kx} {ρ : List Addr} {H : Hp} {a : Addr}
theorem nin_more {b : Addr} (n : b ∉ ρ ∧ b ∉ (⟨K.K, a :: K.φ⟩ : Kx).φ) : b ∉ ρ ++ [a] ∧ b ∉ K.φ :=
  ⟨fun z => by
    rcases List.mem_append.mp z with z | z
    · exact n.1 z
    · obtain rfl := List.mem_singleton.mp z
      exact n.2 List.mem_cons_self, fun z => n.2 (List.mem_cons_of_mem _ z)⟩
mutual
theorem RD.bare : ∀ {d v}, RD ⟨K.K, a :: K.φ⟩ ρ H d v → RD K (ρ ++ [a]) H d v
  | _, _, .non => .non
  | _, _, .bl b => .bl b
  | _, _, .int i => .int i
  | _, _, .str x => .str x
  | _, _, .tup h r => .tup (h.elim (fun z => .inl ⟨z.1, nin_more z.2⟩) .inr) (RDs.bare r)
  | _, _, .itm h n r => .itm h (nin_more n) (RDs.bare r)
  | _, _, .lst h n r => .lst h (nin_more n) (RDs.bare r)
  | _, _, .fzl h r => .fzl (h.elim (fun z => .inl ⟨z.1, nin_more z.2⟩) .inr) (RDs.bare r)
  | _, _, .ref h => .ref (by
    obtain ⟨hl, _⟩ := List.getElem?_eq_some_iff.mp h
    rw [List.getElem?_append_left hl]; exact h)
  | _, _, .glo => .glo
  | _, _, .ty n => .ty n
  | _, _, .inst h n r => .inst h (nin_more n) (RFs.bare r)
  | _, _, .dcv h n r => .dcv h (nin_more n) (RKv.bare r)
theorem RDs.bare : ∀ {ds vs}, RDs ⟨K.K, a :: K.φ⟩ ρ H ds vs → RDs K (ρ ++ [a]) H ds vs
  | _, _, .nil => .nil
  | _, _, .cons h t => .cons (RD.bare h) (RDs.bare t)
theorem RFs.bare : ∀ {ds vs}, RFs ⟨K.K, a :: K.φ⟩ ρ H ds vs → RFs K (ρ ++ [a]) H ds vs
  | _, _, .nil => .nil
  | _, _, .cons h t => .cons (RD.bare h) (RFs.bare t)
theorem RKv.bare : ∀ {ds vs}, RKv ⟨K.K, a :: K.φ⟩ ρ H ds vs → RKv K (ρ ++ [a]) H ds vs
  | _, _, .nil => .nil
  | _, _, .cons h t => .cons (RD.bare h) (RKv.bare t)
end
theorem RO.bare {ob : Ob} {u : HO} (h : RO ⟨K.K, a :: K.φ⟩ ρ H ob u) : RO K (ρ ++ [a]) H ob u := by
  cases ob with
  | lst ds =>
    obtain ⟨xs, e, r⟩ := h
    exact ⟨xs, e, r.bare⟩
  | dic kvs =>
    obtain ⟨ks, e, r⟩ := h
    exact ⟨ks, e, L2.Paired.mapP r fun p q z => ⟨z.1, z.2.bare⟩⟩
  | ins c fs =>
    obtain ⟨dx, gs, e, r⟩ := h
    exact ⟨dx, gs, e, r.bare⟩
/-- what was hidden is now in the store -/
theorem MOk.more {M : Mem} {acc : List V} {ys : List D} (m : MOk ⟨K.K, a :: K.φ⟩ ρ M H) (h : H a = some (.lst acc)) (n : a ∉ ρ) (n2 : a ∉ K.φ) (r : RDs ⟨K.K, a :: K.φ⟩ ρ H ys acc) : MOk K (ρ ++ [a]) (M ++ [.lst ys]) H := by
  refine ⟨?_, by simp [m.len], fun b z => m.hid b (List.mem_cons_of_mem _ z), fun l ob b h1 h2 => ?_⟩
  · rw [List.nodup_append]
    refine ⟨m.nd, by simp, fun b hb c hc => ?_⟩
    (obtain rfl := List.mem_singleton.mp hc)
    exact fun z => n (z ▸ hb)
  · by_cases hl : l < M.length
    · rw [List.getElem?_append_left hl] at h1
      rw [List.getElem?_append_left (by rw [m.len]; exact hl)] at h2
      obtain ⟨v, hv, r'⟩ := m.at_ l ob b h1 h2
      exact ⟨v, hv, r'.bare⟩
    · have hl3 : l = M.length := by
        have := (List.getElem?_eq_some_iff.mp h1).1
        simp at this; omega
      subst hl3
      rw [List.getElem?_concat_length] at h1
      rw [← m.len, List.getElem?_concat_length] at h2
      cases h1; cases h2
      exact ⟨_, h, acc, rfl, r.bare⟩
end
section
variable {X : Cx} {W : WX} {elt tg iter : Expr} {ifs : List Expr} {scope : Scope} {own : List (Str × Nat)} {pos : Pos} {fi : EvI} {g : Tg} {ft fe : Ev}
theorem lc_post {K : Kx} {vs : List Nat} {ρ : List Addr} {σ : L2.St} {H : Hp} {env : Env} {M : Mem} {Q : VK} (he : RE K ρ H env σ) (h : Post K W ρ σ H (eLc vs fi g ft fe env M) Q) :
    PostI K W ρ σ H (fi env M) (fun J H1 => ∀ Dd, H1 Dd = none → ∃ Wv : Nat → Nat → Hp → Prop, (∃ m, Wv 0 m (upd H1 Dd (.lst []))) ∧ ∀ i m H, Wv i m H → (J.stop i H ∧ Q (.ref Dd) H) ∨ (J.go i H ∧ ∃ Nx : Hp → Prop, (∀ H', Nx H' → ∃ m', m' < m ∧ Wv (i + 1) m' H') ∧
      ∀ x H', J.yld i H x H' → tOfG K.K vs g x (wipe σ vs) H' fun σ2 H2 => wipe σ2 vs = wipe σ vs ∧ tOfT K.K W0 ft σ2 H2 fun b H3 => if b = true then tOf K.K W0 fe σ2 H3 fun y H4 => ∃ acc, H4 Dd = some (.lst acc) ∧ acc.length < sizeLine ∧ Nx (upd H4 Dd (.lst (acc ++ [y]))) else Nx H3)) := by
  unfold eLc at h
  cases q : fi env M with
  | ex x M1 => rw [q] at h; exact h
  | st => rw [q] at h; exact h.elim
  | ok ds chk M1 =>
    rw [q] at h
    simp only at h
    split at h
    · rename_i hz
      intro ρ1 H1 J a1 b1 ck jw Dd hD
      cases qc : compD chk g ft fe (wipeE env vs) ds M1 with
      | ok ys Mf =>
        rw [qc] at h
        exact lc_soundG hz b1 jw ((he.ext a1).wipe vs) hD qc fun ρ' H' a acc ex m _ h1 h2 h3 r _ _ => h ρ' H' _ (a1.trans ex) m (.lst h1 ⟨h2, h3⟩ r)
      | ex x Mf =>
        exfalso
        exact comp_noex _ _ _ _ qc
      | st => rw [qc] at h; exact h.elim
    · exact h.elim
theorem de_lc (own : List (Str × Nat)) (hc : X.calm = true) (hN : X.N.Nodup) (hi : DI X W tg iter fi) (ok : BlkOk X.N X.env.scope scope own)
    (hg : ∀ (s : Shared) (H : Hp) (C : Addr) (cl : List (Str × Addr)) (fp : List Addr), DGv (X.blk s H scope (compEnvC scope cl C X.env) fp) (own.map (·.2)) tg g)
    (ht : ∀ (s : Shared) (H : Hp) (C : Addr) (cl : List (Str × Addr)) (fp : List Addr), DTs (X.blk s H scope (compEnvC scope cl C X.env) fp) W0 ifs ft)
    (he : ∀ (s : Shared) (H : Hp) (C : Addr) (cl : List (Str × Addr)) (fp : List Addr), DE (X.blk s H scope (compEnvC scope cl C X.env) fp) W0 elt fe) (hs : ∀ x, foldedSetIterable iter X.env x = pure x := by intro _; rfl) :
    DE X W (.ListComp elt [⟨tg, iter, ifs, 0⟩] scope pos) (eLc (own.map (·.2)) fi g ft fe) := by
  obtain ⟨wi, pi, si⟩ := hi
  refine ⟨_, pe_lc (g := tOfG X.K (own.map (·.2)) g) (tt := tOfT X.K W0 ft) (te := tOf X.K W0 fe) hc hN pi ok (fun s H C cl fp => (hg s H C cl fp).canon) (fun s H C cl fp => (ht s H C cl fp).canon) (fun s H C cl fp => (he s H C cl fp).canon) hs, fun φ ρ env M σ H Q e m h => ?_⟩
  exact si φ ρ env M σ H _ e m (lc_post e h)
end
end DL

/-! defs whose callers are known to show nothing (repr's rule wants that) -/
namespace DL
open PySem L2 PyProof.Rows PySem.Spec
/-- room below, and nobody is being shown -/
def Room (k : Nat) (A : Around) : Prop := L2.Room k A ∧ A.guards = some []
section
variable {j k : Nat} {A : Around}
theorem Room.rm (r : Room k A) : L2.Room k A := r.1
theorem Room.gd (r : Room k A) : A.guards = some [] := r.2
instance : CoeOut (Room k A) (L2.Room k A) := ⟨Room.rm⟩
theorem Room.mono (r : Room k A) (h : j ≤ k) : Room j A := ⟨r.1.mono h, r.2⟩
theorem Room.depth (r : Room k A) : A.depth < recursionLimit := r.1.depth
theorem Room.units (r : Room k A) : A.units + 64 < cLine := r.1.units
theorem Room.units1 (r : Room k A) : A.units + 1 < cLine := by have := r.1.un; omega
theorem Room.units65 (r : Room k A) : A.units + 65 < cLine := by have := r.1.un; omega
theorem Room.dp (r : Room k A) : A.depth + 3 * k + 5 < recursionLimit := r.1.dp
theorem Room.un (r : Room k A) : A.units + 16 * k + 200 < cLine := r.1.un
theorem Room.hd (r : Room k A) : A.handled = none := r.1.hd
theorem Room.deeper (r : Room (k + 1) A) (e : PySem.Env) : Room k (A.deeper e) := ⟨r.1.deeper e, r.2⟩
theorem Room.in1 (r : Room (k + 1) A) : Room k A.in1 := ⟨r.1.in1, r.2⟩
theorem Room.make (r : Room (k + 1) A) (C : Addr) (us : List Value) (kw : List (Str × Value)) : Room k (A.under (.builtin "type.__call__" ⟨.ref C :: us, kw⟩)) :=
  ⟨r.1.make C us kw, by unfold Around.under; simp only [r.2]; rfl⟩
end
section
variable (P : Program) (w : World) (K : PySem.W.Frag) (mg : Str → Option Value) (base : Heap) (cx : CXT)
/-- the call of g, from here, comes to what is wished -/
def Comes (A : Around) (g : Addr) (args : Args) (out : List PySem.Env) (H : Hp) (Q : VK) (E : XK) (z : Shared) : Prop :=
  codeAny (model P w) A (.call (.ref g) args) (CR cx out P w H z Q E) z
variable (k : Nat) (g : Addr)
/-- a def's promise to callers with room, nothing being shown -/
structure FnOk (df : FuncData) (ns : List Str) (pr : Sp) : Prop where
  many : ∀ xs H Q E, pr xs H Q E → xs.length = ns.length
  comes : ∀ A, Room k A → ∀ out z H, Env0 P w K mg base A out z H → ∀ args us xs, BindsTo z df args (ns.zip us) → Vals xs us → ∀ Q E, pr xs H Q E → Comes P w cx A g args out H Q E z
/-- the same of whatever stands at g -/
def FnR (pr : Sp) : Prop := ∀ A, Room k A → ∀ out z H, Env0 P w K mg base A out z H → ∀ us xs, Vals xs us → ∀ Q E, pr xs H Q E → Comes P w cx A g ⟨us, []⟩ out H Q E z
end
section
variable {P : Program} {w : World} {K : PySem.W.Frag} {mg : Str → Option Value} {base : Heap} {cx : CXT} {j k : Nat} {g : Addr} {df : FuncData} {ns N : List Str} {pr pr' : Sp} {x qual : Str} {params : Arguments} {body : List Stmt} {scope : Scope} {dvs : List V} {kws : List (Str × V)}
theorem FnOk.len (F : FnOk P w K mg base cx k g df ns pr) : ∀ xs H Q E, pr xs H Q E → xs.length = ns.length := F.many
theorem FnOk.run (F : FnOk P w K mg base cx k g df ns pr) (A : Around) (out : List PySem.Env) (z : Shared) (H : Hp) (args : Args) (us : List Value) (xs : List V) (Q : VK) (E : XK) (r : Room k A) (e : Env0 P w K mg base A out z H) (b : BindsTo z df args (ns.zip us)) (v : Vals xs us) (h : pr xs H Q E) :
    Comes P w cx A g args out H Q E z := F.comes A r out z H e args us xs b v Q E h
theorem FnOk.mono (F : FnOk P w K mg base cx j g df ns pr) (h : j ≤ k) : FnOk P w K mg base cx k g df ns pr := ⟨F.many, fun A r => F.comes A (r.mono h)⟩
theorem FnR.mono (F : FnR P w K mg base cx j g pr) (h : j ≤ k) : FnR P w K mg base cx k g pr := fun A r => F A (r.mono h)
theorem FnR.imp (F : FnR P w K mg base cx k g pr) (h : ∀ xs H Q E, pr' xs H Q E → pr xs H Q E) : FnR P w K mg base cx k g pr' := fun A r out z H e us xs v Q E q => F A r out z H e us xs v Q E (h _ _ _ _ q)
theorem FnR.run (F : FnR P w K mg base cx k g pr) (A : Around) (out : List PySem.Env) (z : Shared) (H : Hp) (us : List Value) (xs : List V) (Q : VK) (E : XK) (r : Room k A) (e : Env0 P w K mg base A out z H) (v : Vals xs us) (h : pr xs H Q E) : Comes P w cx A g ⟨us, []⟩ out H Q E z := F A r out z H e us xs v Q E h
theorem FnOk.raw {ds : List Value} (F : FnOk P w K mg base cx k g df ns pr) (b : Binds K df ns ds) (d : Vals dvs ds) : FnR P w K mg base cx k g (fun xs H Q E => pr (xs ++ dvs) H Q E) := fun A r out z H e us xs v Q E h => by
  have both := v.append d
  have kin : K.In z.heap := e.mod.kin.keeps fun b o t => (e.bs b o t).1
  exact F.comes A r out z H e _ _ _ (b z us kin (both.length.symm.trans (F.many _ _ _ _ h))) both Q E h
/-- the promise by the body -/
theorem fnD_ok (F : FunD K x qual params body scope dvs kws g df) (S : FnScope N ns scope) (many : ∀ xs H Q E, pr xs H Q E → xs.length = ns.length)
    (bd : ∀ cdv A out z H xs Q E, Room k (A.deeper (envOfC qual scope z.heap.objs.size g cdv)) → pr xs H Q E →
      ∃ t, PSs (cxOf cx P w K mg base N qual scope g cdv A out z H E) body t ∧ t ⟨fun _ H' => Q .non H', Q, fun _ _ => False, fun _ _ => False⟩ (start N xs) H) : FnOk P w K mg base cx (k + 1) g df ns pr := by
  obtain ⟨_, _, _, _, _, _, _, cdv, _, _, rfl, lk, hcd, _⟩ := F.ex
  refine ⟨many, fun A r out z H e args us xs b v Q E h => ?_⟩
  refine StX.run_bnd lk hcd S r.rm e (G := fun ys H2 => ys = xs ∧ H2 = H) (fun A' Ex Q' go => b _ _ _ _ (go z H xs us e .refl rfl (fun _ _ t => t) v (many _ _ _ _ h) ⟨rfl, rfl⟩)) fun z2 H2 ys t rm => ?_
  obtain ⟨t1, t2⟩ := t
  rw [t1, t2]
  exact bd cdv A out z2 H xs Q E ⟨rm, r.gd⟩ h
end
/-! ### calls -/
section
variable {X : Cx} {cx : CXT} {k : Nat} {g : Addr} {df : FuncData} {ns : List Str} {pr : Sp} {dvs : List V} {ds : List Value} {pins : List (Addr × Obj)} {σ : L2.St} {H : Hp} {s : Shared} {Q : VK}
/-- a callee's end is an end here -/
theorem end_of {s' : Shared} {E : XK} {t : Result} (ps : PassesAt cx X σ E) (J : Inv X pins σ H s) (h : CR cx X.stack X.prog X.w H s Q E t s') : match t with
    | .ok (.ret u) => EP X pins σ Q u s'
    | .ok _ => False
    | .error e => X.xe e s' := by
  cases t with
  | error e => exact ps pins H s e s' J h
  | ok fl => cases fl <;> first | exact J.after h | exact h
variable {E : L2.St → XK}
theorem run_fnSD {us : List Value} {vs : List V} (G : FnOk X.prog X.w X.K X.mg X.base cx k g df ns pr) (room : Room k X.A) (bi : Binds X.K df ns ds) (dv : Vals dvs ds) (ps : PassesAt cx X σ (E σ)) (J : Inv X pins σ H s) (va : Vals vs us)
    (wish : pr (vs ++ dvs) H Q (E σ)) : wpAny (model X.prog X.w) X.A (PySem.call (.ref g) us) (fun u s' => EP X pins σ Q u s') X.xe s := by
  have all := va.append dv
  have go := G.comes X.A room X.stack s H J.env0 ⟨us, []⟩ _ _ (bi s us J.kIn (all.length.symm.trans (G.many _ _ _ _ wish))) all Q (E σ) wish
  exact wpAny_call (codeAny_mono go fun t s' z => by
    have := end_of ps J z
    cases t with
    | error e => exact this
    | ok fl => cases fl <;> exact this)
variable {x : Str} {p pos : Pos} {a : Expr} {as : List Expr} {ta : TA}
theorem pe_callSD (G : FnOk X.prog X.w X.K X.mg X.base cx k g df ns pr) (room : Room k X.A) (gl : Gl X x) (at_ : X.mg x = some (.ref g)) (keep : PySem.W.keepIn X.K (.ref g) = true) (bi : Binds X.K df ns ds) (dv : Vals dvs ds)
    (ps : ∀ σ, PassesAt cx X σ (E σ)) (args : PA X (a :: as) ta) (nd : (x == ("__debug__" : Str)) = false := by decide) (st : starEach (a :: as) X.env = (false, eval a X.env) :: starEach as X.env := by rfl)
    (pl : (backTo pos (starEach as X.env)).any (·.1) = false := by rfl) : PE X (.Call (.Name x p) (a :: as) [] pos) (tCallSD pr dvs E ta) :=
  ⟨fun pins s σ H Q J wish => wpAny_Call_Name_kw (ld_glob J gl at_ (PySem.W.callWith_K (h₀ := X.base) J.ok.mod.kin keep (thn (args.run pos pins s σ H _ J wish) fun us s1 t => by
    obtain ⟨vs, H1, J1, va, w1⟩ := t
    exact ⟨J1.kIn, run_fnSD G room bi dv (ps σ) J1 va w1⟩) st pl) nd)⟩
end
/-! ### properties -/
section
variable {X : Cx} {cx : CXT} {k : Nat} {df : FuncData} {ns : List Str} {pr : Sp} {dvs : List V} {ds : List Value} {E : XK} {C q g : Addr} {f : Str}
theorem get_pr {pins : List (Addr × Obj)} {σ : L2.St} {H : Hp} {s : Shared} {Q : VK} {b : Bool} {R : Value → Shared → Prop} {o dx : Addr} {fs : List (Str × V)} (J : Inv X pins σ H s) (at_ : H o = some (.ins C dx fs)) (cl : Cls X.K C) (po : PropOf X.K C f q g)
    (G : FnOk X.prog X.w X.K X.mg X.base cx k g df ns pr) (room : Room (k + 1) X.A) (bi : Binds X.K df ns ds) (dv : Vals dvs ds) (ps : Passes cx X.nox E) (wish : pr (.ref o :: dvs) H Q E) :
    wpAny (model X.prog X.w) X.A (getAttr (.ref o) f b) (fun u s' => EP X pins σ Q u s') R s := by
  obtain ⟨_, O, _⟩ := ins_get J.hok at_
  obtain ⟨_, look, _⟩ := O.look
  obtain ⟨_, rec_⟩ := po.rec_
  have T := J.tok (s.toks + 1)
  have all : Vals (V.ref o :: dvs) (Value.ref o :: ds) := .cons rfl dv
  have isC : (PySem.W.clsIn X.K C).isSome = true := by obtain ⟨_, z, _⟩ := PySem.W.any_some cl.hd; simp [z]
  have pg := PySem.W.plainGet_of (cl.get f)
  have go := G.comes X.A.in1 room.in1 X.stack { s with toks := s.toks + 1 } H T.env0.in1 ⟨[.ref o], []⟩ _ _ (bi _ [.ref o] T.kIn (all.length.symm.trans (G.many _ _ _ _ wish))) all Q E wish
  refine PySem.W.get_bind J.kIn look pg.1 (PySem.W.findObj_data isC po.at_ po.get po.tak) pg.2 (wpAny_call (PySem.W.prop_get (s := { s with toks := s.toks + 1 }) J.kIn rec_ (codeAny_mono go fun t s' z => ?_)))
  match t, z with
  | .error e, z => exact (ps pins σ H _ e s' (T.wish _) z).elim
  | .ok (.ret u), z =>
    have ends := T.after z
    obtain ⟨v, H', J3, rv, w3⟩ := ends
    have out : handedOut u = pure u := PySem.W.handedOut_of (handed_of rv)
    have fin : wpAny (model X.prog X.w) X.A (pure u) (fun u s' => EP X pins σ Q u s') R s' := wpAny_pure ⟨v, H', J3, rv, w3⟩
    rw [← out] at fin
    exact fin
  | .ok .next, z => exact False.elim z
  | .ok .brk, z => exact False.elim z
  | .ok .cont, z => exact False.elim z
theorem pe_prop {a : Expr} {pos : Pos} {ta : TE} (ob : PE X a ta) (cl : Cls X.K C) (po : PropOf X.K C f q g) (G : FnOk X.prog X.w X.K X.mg X.base cx k g df ns pr) (room : Room (k + 1) X.A) (bi : Binds X.K df ns ds) (dv : Vals dvs ds) (ps : Passes cx X.nox E)
    (hab : attributeBase a f X.env (eval a X.env) = eval a X.env) : PE X (.Attribute a f pos) (tProp C pr dvs E ta) :=
  ⟨fun pins s σ H Q J wish => attr_of hab (thn (ob.run pins s σ H _ J wish) fun u s1 t => by
    obtain ⟨_, H1, J1, ru, o, dx, fs, rfl, at_, w1⟩ := t
    obtain rfl : u = Value.ref o := ru
    exact get_pr J1 at_ cl po G room bi dv ps w1)⟩
end
/-! ### the last parameter takes the rest -/
end DL

namespace DL
open PySem L2 PyProof.Rows PySem.Spec

/-! ### defs -/
def PostF (K : Kx) (ρ : List Addr) (H : Hp) (r : Out) (Q : VK) (E : XK) : Prop := match r with
  | .ok d M => ∀ ρ' H' v, Ext ρ H ρ' H' → MOk K ρ' M H' → RD K ρ' H' d v → Q v H'
  | .ex x M => ∀ ρ' H' dx, Ext ρ H ρ' H' → MOk K ρ' M H' → ExR K ρ' H' x dx → E (.ref (gadr K.K x.cls)) (some dx) H'
  | .st => False
/-- the promise: it computes F -/
def spF (K : PySem.W.Frag) (n : Nat) (F : Fn) : Sp := fun vs H Q E => ∃ φ ρ ds M, ds.length = n ∧ RDs ⟨K, φ⟩ ρ H ds vs ∧ MOk ⟨K, φ⟩ ρ M H ∧ PostF ⟨K, φ⟩ ρ H (F ds M) Q E
/-- a def of n parameters and s slots by its body -/
def endF : OutS → Out
  | .rt d M => .ok d M
  | .nx _ M => .ok .non M
  | .ex x _ M => .ex x M
  | _ => .st
def defn (n s : Nat) (body : Sx) : Fn := fun ds M => if ds.length = n then endF (body (ds.map some ++ List.replicate (s - n) none) M) else .st
/-! pure data: no object of the store within -/
mutual
def pureD : D → Bool
  | .tup xs => puresD xs
  | .itm xs => puresD xs
  | .lst xs => puresD xs
  | .fzl xs => puresD xs
  | .inst _ fs => puresF fs
  | .dcv kvs => puresK kvs
  | .ref _ => false
  | .non => true
  | .bl _ => true
  | .int _ => true
  | .str _ => true
  | .glo _ => true
  | .ty _ => true
def puresD : List D → Bool
  | [] => true
  | x :: xs => pureD x && puresD xs
def puresF : List (Str × D) → Bool
  | [] => true
  | x :: xs => pureD x.2 && puresF xs
def puresK : List (Key × D) → Bool
  | [] => true
  | x :: xs => pureD x.2 && puresK xs
end
def pureOb : Ob → Bool
  | .lst xs => puresD xs
  | .dic kvs => kvs.all fun p => pureD p.2
  | .ins _ fs => puresF fs
/-- an object that no one changes any more, as a value -/
def obD : Ob → Option D
  | .lst xs => if puresD xs then some (.lst xs) else none
  | .dic kvs => if puresK kvs then some (.dcv kvs) else none
  | .ins c fs => if puresF fs then some (.inst c fs) else none
/-- what comes back from a call that was entered with n objects: a list made there comes as a value, also within a list, a tuple -/
def backE (n : Nat) (M : Mem) (d : D) : Option D := match d with
  | .ref l => if n ≤ l then (match M[l]? with
    | some ob => obD ob
    | none => none) else some (.ref l)
  | d => if pureD d then some d else none
def backL (n : Nat) (M : Mem) : List D → Option (List D)
  | [] => some []
  | d :: ds => match backE n M d, backL n M ds with
    | some e, some es => some (e :: es)
    | _, _ => none
def backC (n : Nat) (M : Mem) (d : D) : Option D := match d with
  | .lst ds => (backL n M ds).map .lst
  | .tup ds => (backL n M ds).map .tup
  | _ => none
def backD (n : Nat) (d : D) (M : Mem) : Option D := match d with
  | .ref l => if n ≤ l then (match M[l]? with
    | some ob => obD ob
    | none => none) else some (.ref l)
  | d => if pureD d then some d else backC n M d
def retF (r : Out) (n : Nat) (f : Mem → Option Mem) : Out := match r with
  | .ok d M => match f M, backD n d M with
    | some M', some d' => .ok d' M'
    | _, _ => .st
  | .ex x M => match f M with
    | some M' => if puresF x.fs then .ex x M' else .st
    | none => .st
  | .st => .st
def cutM (n : Nat) (M : Mem) : Option Mem := if (M.take n).all pureOb then some (M.take n) else none
def callF (F : Fn) (ds : List D) (M : Mem) : Out := if puresD ds then retF (F ds []) 0 (fun _ => some M) else retF (F ds M) M.length (cutM M.length)
section
variable {K K' : Kx} {W : WX} {ρ ρ' : List Addr} {σ : L2.St} {H H' : Hp} {M M' : Mem}
/-- pure data do not care for the store -/
def Sub (K K' : Kx) (ρ ρ' : List Addr) (H : Hp) : Prop := K'.K = K.K ∧ ∀ a o, H a = some o → a ∉ ρ → a ∉ K.φ → a ∉ ρ' ∧ a ∉ K'.φ
theorem SqTf.sub {a : Addr} {xs : List V} (s : Sub K K' ρ ρ' H) (h : SqTf K ρ H a xs) : SqTf K' ρ' H a xs := by
  rcases h with ⟨⟨o, e, d⟩, n⟩ | k
  · exact .inl ⟨⟨o, e, d⟩, s.2 a _ e n.1 n.2⟩
  · exact .inr (by rw [s.1]; exact k)
theorem SqLf.sub {a : Addr} {xs : List V} (s : Sub K K' ρ ρ' H) (h : SqLf K ρ H a xs) : SqLf K' ρ' H a xs := by
  rcases h with ⟨r, n⟩ | k
  · obtain ⟨o, e⟩ := Rd.tracked r
    exact .inl ⟨r, s.2 a o e n.1 n.2⟩
  · exact .inr (by rw [s.1]; exact k)
mutual
theorem RD.sub (s : Sub K K' ρ ρ' H) : ∀ {d v}, RD K ρ H d v → pureD d = true → RD K' ρ' H d v
  | _, _, .non, _ => .non
  | _, _, .bl b, _ => .bl b
  | _, _, .int i, _ => .int i
  | _, _, .str x, _ => .str x
  | _, _, .tup h r, p => .tup (h.sub s) (RDs.sub s r p)
  | _, _, .itm h n r, p => .itm h (s.2 _ _ h n.1 n.2) (RDs.sub s r p)
  | _, _, .lst h n r, p => .lst h (s.2 _ _ h n.1 n.2) (RDs.sub s r p)
  | _, _, .fzl h r, p => .fzl (h.sub s) (RDs.sub s r p)
  | _, _, .ref h, p => by cases p
  | _, _, .glo, _ => by rw [← s.1]; exact .glo
  | _, _, .ty n, _ => .ty n
  | _, _, .inst h n r, p => .inst (by rw [s.1]; exact h) (s.2 _ _ h n.1 n.2) (RFs.sub s r p)
  | _, _, .dcv h n r, p => .dcv h (s.2 _ _ h n.1 n.2) (RKv.sub s r p)
theorem RDs.sub (s : Sub K K' ρ ρ' H) : ∀ {ds vs}, RDs K ρ H ds vs → puresD ds = true → RDs K' ρ' H ds vs
  | _, _, .nil, _ => .nil
  | _, _, .cons h t, p => by
    have p' := Bool.and_eq_true_iff.mp p
    exact .cons (RD.sub s h p'.1) (RDs.sub s t p'.2)
theorem RFs.sub (s : Sub K K' ρ ρ' H) : ∀ {ds vs}, RFs K ρ H ds vs → puresF ds = true → RFs K' ρ' H ds vs
  | _, _, .nil, _ => .nil
  | _, _, .cons h t, p => by
    have p' := Bool.and_eq_true_iff.mp p
    exact .cons (RD.sub s h p'.1) (RFs.sub s t p'.2)
theorem RKv.sub (s : Sub K K' ρ ρ' H) : ∀ {ds vs}, RKv K ρ H ds vs → puresK ds = true → RKv K' ρ' H ds vs
  | _, _, .nil, _ => .nil
  | _, _, .cons h t, p => by
    have p' := Bool.and_eq_true_iff.mp p
    exact .cons (RD.sub s h p'.1) (RKv.sub s t p'.2)
end
theorem RKs.sub (s : Sub K K' ρ ρ' H) : ∀ {ds : List (Key × D)} {vs}, RKs K ρ H ds vs → (ds.all fun p => pureD p.2) = true → RKs K' ρ' H ds vs
  | _, _, .nil, _ => .nil
  | _, _, .cons h t, p => by
    have p' := Bool.and_eq_true_iff.mp p
    exact .cons ⟨h.1, h.2.sub s p'.1⟩ (RKs.sub s t p'.2)
theorem RO.sub {ob : Ob} {u : HO} (s : Sub K K' ρ ρ' H) (h : RO K ρ H ob u) (p : pureOb ob = true) : RO K' ρ' H ob u := by
  cases ob with
  | lst ds => obtain ⟨xs, rfl, r⟩ := h; exact ⟨xs, rfl, r.sub s p⟩
  | dic ds => obtain ⟨xs, rfl, r⟩ := h; exact ⟨xs, rfl, RKs.sub s r p⟩
  | ins c ds => obtain ⟨dx, xs, rfl, r⟩ := h; exact ⟨dx, xs, by rw [s.1], r.sub s p⟩
theorem ExR.sub {x : Exn} {dx : Addr} (s : Sub K K' ρ ρ' H) (h : ExR K ρ H x dx) (p : puresF x.fs = true) : ExR K' ρ' H x dx := by
  obtain ⟨n, gs, e, r⟩ := h
  exact ⟨s.2 _ _ e n.1 n.2, gs, e, r.sub s p⟩
theorem obD_ok {l : Nat} {a : Addr} {ob : Ob} {d' : D} (s : Sub K K' ρ ρ' H) (m : MOk K ρ M H) (hx : M[l]? = some ob) (h : ρ[l]? = some a) (e : obD ob = some d') (new : a ∉ ρ' ∧ a ∉ K'.φ) : RD K' ρ' H d' (.ref a) := by
  obtain ⟨u, hu, ro⟩ := m.at_ _ _ _ hx h
  cases ob with
  | lst xs =>
    obtain ⟨ys, rfl, rr⟩ := ro
    have e : (if puresD xs then some (D.lst xs) else none) = some d' := e
    split at e
    · rename_i p
      cases e
      exact .lst hu new (rr.sub s p)
    · cases e
  | dic kvs =>
    obtain ⟨ys, rfl, rr⟩ := ro
    have e : (if puresK kvs then some (D.dcv kvs) else none) = some d' := e
    split at e
    · rename_i p
      cases e
      exact .dcv hu new (rr.kv.sub s p)
    · cases e
  | ins c fs =>
    obtain ⟨dx, gs, rfl, rr⟩ := ro
    have e : (if puresF fs then some (D.inst c fs) else none) = some d' := e
    split at e
    · rename_i p
      cases e
      exact .inst (by rw [s.1]; exact hu) new (rr.sub s p)
    · cases e
theorem backE_ok {n : Nat} {d d' : D} {v : V} (s : Sub K K' ρ ρ' H) (m : MOk K ρ M H) (r : RD K ρ H d v) (e : backE n M d = some d') (old : ∀ l a, l < n → ρ[l]? = some a → ρ'[l]? = some a) (new : ∀ l a, n ≤ l → ρ[l]? = some a → a ∉ ρ' ∧ a ∉ K'.φ) : RD K' ρ' H d' v := by
  unfold backE at e
  split at e
  · cases r with
    | @ref l a h =>
      split at e
      · rename_i hl
        split at e
        · rename_i ob hx
          exact obD_ok s m hx h e (new _ _ hl h)
        · cases e
      · rename_i hl
        cases e
        exact .ref (old _ _ (by omega) h)
  · split at e
    · rename_i p
      cases e
      exact r.sub s p
    · cases e
theorem backL_ok {n : Nat} (s : Sub K K' ρ ρ' H) (m : MOk K ρ M H) (old : ∀ l a, l < n → ρ[l]? = some a → ρ'[l]? = some a) (new : ∀ l a, n ≤ l → ρ[l]? = some a → a ∉ ρ' ∧ a ∉ K'.φ) : ∀ {ds ds' : List D} {vs : List V}, RDs K ρ H ds vs → backL n M ds = some ds' → RDs K' ρ' H ds' vs
  | _, _, _, .nil, e => by
    unfold backL at e
    cases e
    exact .nil
  | _, _, _, .cons h t, e => by
    unfold backL at e
    split at e
    · rename_i d2 ds2 q1 q2
      cases e
      exact .cons (backE_ok s m h q1 old new) (backL_ok s m old new t q2)
    · cases e
theorem back_ok {n : Nat} {d d' : D} {v : V} (s : Sub K K' ρ ρ' H) (m : MOk K ρ M H) (r : RD K ρ H d v) (e : backD n d M = some d') (old : ∀ l a, l < n → ρ[l]? = some a → ρ'[l]? = some a) (new : ∀ l a, n ≤ l → ρ[l]? = some a → a ∉ ρ' ∧ a ∉ K'.φ) : RD K' ρ' H d' v := by
  unfold backD at e
  split at e
  · exact backE_ok (d := .ref _) s m r e old new
  · split at e
    · rename_i p
      cases e
      exact r.sub s p
    · unfold backC at e
      split at e
      · cases q : backL n M _ with
        | none => (rw [q] at e; exact nomatch e)
        | some es =>
          rw [q] at e
          cases e
          cases r with
          | lst h n2 rr => exact .lst h (s.2 _ _ h n2.1 n2.2) (backL_ok s m old new rr q)
      · cases q : backL n M _ with
        | none => (rw [q] at e; exact nomatch e)
        | some es =>
          rw [q] at e
          cases e
          cases r with
          | tup h rr => exact .tup (h.sub s) (backL_ok s m old new rr q)
      · cases e
theorem MOk.empty (m : MOk K ρ M H) : MOk ⟨K.K, K.φ ++ ρ⟩ [] [] H := ⟨.nil, rfl, fun a z => m.ownAt ((List.mem_append.mp z).elim .inr .inl), fun l ob a h => by simp at h⟩
theorem retF_keep {F : Fn} {ds : List D} {Q : VK} (m : MOk K ρ M H) (h : Post K W ρ σ H (retF (F ds M) M.length (cutM M.length)) Q) : PostF K ρ H (F ds M) Q (fun c d H => W c d σ H) := by
  have fin : ∀ {ρ1 : List Addr} {H1 : Hp} {M1 M2 : Mem}, Ext ρ H ρ1 H1 → MOk K ρ1 M1 H1 → cutM M.length M1 = some M2 → Ext ρ H ρ H1 ∧ MOk K ρ M2 H1 ∧ Sub K K ρ1 ρ H1 ∧ (∀ l a, l < M.length → ρ1[l]? = some a → ρ[l]? = some a) ∧ ∀ l a, M.length ≤ l → ρ1[l]? = some a → a ∉ ρ ∧ a ∉ K.φ :=
      fun {ρ1 H1 M1 M2} e b q => by
    obtain ⟨t, e1, e2⟩ := e.pre
    have hl := m.len
    unfold cutM at q
    split at q
    · rename_i hp
      cases q
      have ex : Ext ρ H ρ H1 := ⟨⟨[], by simp, by simp⟩, e.keep, e.live⟩
      have s1 : Sub K K ρ1 ρ H1 := ⟨rfl, fun a o _ h1 h2 => ⟨fun z => h1 (by rw [e1]; exact List.mem_append_left _ z), h2⟩⟩
      have lo : ∀ l a, l < M.length → ρ1[l]? = some a → ρ[l]? = some a := fun l a h1 h2 => by
        rw [e1, List.getElem?_append_left (by omega)] at h2
        exact h2
      refine ⟨ex, ⟨m.nd, ?_, b.hid, fun l ob a h1 h2 => ?_⟩, s1, lo, fun l a h1 h2 => ?_⟩
      · have := b.len
        rw [e1, List.length_append] at this
        rw [List.length_take]
        omega
      · rw [List.getElem?_take] at h1
        split at h1
        · rename_i hlt
          obtain ⟨u, hu, r⟩ := b.at_ l ob a h1 (by rw [e1, List.getElem?_append_left (by omega)]; exact h2)
          refine ⟨u, hu, r.sub s1 ?_⟩
          have := List.all_eq_true.mp hp ob (List.mem_of_getElem? (i := l) (by rw [List.getElem?_take, if_pos hlt]; exact h1))
          exact this
        · cases h1
      · rw [e1, List.getElem?_append_right (by omega)] at h2
        exact m.fresh (e2 a (List.mem_of_getElem? h2))
    · cases q
  unfold retF at h
  split at h
  · rename_i d M1 q
    rw [q]
    split at h
    · rename_i M2 d' q1 q2
      intro ρ1 H1 v a b c
      obtain ⟨ex, m1, s1, lo, hi⟩ := fin a b q1
      exact h _ _ _ ex m1 (back_ok s1 b c q2 lo hi)
    · exact h.elim
  · rename_i x M1 q
    rw [q]
    split at h
    · rename_i M2 q1
      split at h
      · rename_i hp2
        intro ρ1 H1 dx a b c
        obtain ⟨ex, m1, s1, lo, hi⟩ := fin a b q1
        exact h _ _ _ ex m1 (c.sub s1 hp2)
      · exact h.elim
    · exact h.elim
  · exact h.elim
theorem callF_sound {n : Nat} {F : Fn} {ds : List D} {vs : List V} {Q : VK} (hn : ds.length = n) (r : RDs K ρ H ds vs) (m : MOk K ρ M H) (h : Post K W ρ σ H (callF F ds M) Q) : spF K.K n F vs H Q (fun c d H => W c d σ H) := by
  unfold callF at h
  split at h
  · rename_i hp
    have s : Sub K ⟨K.K, K.φ ++ ρ⟩ ρ [] H := ⟨rfl, fun a o e h1 h2 => ⟨by simp, by simp [h1, h2]⟩⟩
    refine ⟨K.φ ++ ρ, [], ds, [], hn, r.sub s hp, m.empty, ?_⟩
    have fin : ∀ {ρ1 : List Addr} {H1 : Hp}, Ext [] H ρ1 H1 → Ext ρ H ρ H1 ∧ MOk K ρ M H1 ∧ Sub ⟨K.K, K.φ ++ ρ⟩ K ρ1 ρ H1 ∧ ∀ a ∈ ρ1, a ∉ ρ ∧ a ∉ K.φ := fun {ρ1 H1} e => by
      have ex : Ext ρ H ρ H1 := ⟨⟨[], by simp, by simp⟩, fun a o q _ => e.keep a o q (by simp), e.live⟩
      refine ⟨ex, m.keep ex fun a z => ?_, ⟨rfl, fun a o q h1 h2 => ?_⟩, fun a z => ?_⟩
      · obtain ⟨u, hu, _⟩ := m.ownAt (.inl z)
        rw [hu]
        exact e.keep a u hu (by simp)
      · simp only [List.mem_append, not_or] at h2
        exact ⟨h2.2, h2.1⟩
      · obtain ⟨t, e1, e2⟩ := e.pre
        rw [e1] at z
        exact m.fresh (e2 a (by simpa using z))
    unfold retF at h
    split at h
    · rename_i d M1 q
      rw [q]
      split at h
      · rename_i M2 d' q1 q2
        cases q1
        intro ρ1 H1 v a b c
        obtain ⟨ex, m1, s1, nw⟩ := fin a
        exact h _ _ _ ex m1 (back_ok s1 b c q2 (fun l a hl => absurd hl (Nat.not_lt_zero _)) fun l a _ hl => nw a (List.mem_of_getElem? hl))
      · exact h.elim
    · rename_i x M1 q
      rw [q]
      split at h
      · rename_i M2 q1
        cases q1
        split at h
        · rename_i hp2
          intro ρ1 H1 dx a b c
          obtain ⟨ex, m1, s1, nw⟩ := fin a
          exact h _ _ _ ex m1 (c.sub s1 hp2)
        · exact h.elim
      · exact h.elim
    · exact h.elim
  · refine ⟨K.φ, ρ, ds, M, hn, r, m, ?_⟩
    exact retF_keep m h
end
/-- f(e, ..) -/
def eFn (F : Fn) (f : EvL) : Ev := fun env M => (f env M).bind (callF F)
section
variable {X : Cx} {W : WX} {pos p : Pos} {a : Expr} {es : List Expr} {fl : EvL} {x : Str} {k : Nat} {fd : FuncData} {ps : List Str} {F : Fn}
theorem de_fn (G : FnOk X.prog X.w X.K X.mg X.base (L2.CX X.prog X.w) k (gadr X.K x) fd ps (spF X.K ps.length F)) (hr : Room k X.A) (hg : Gl X x) (hm : X.mg x = some (.ref (gadr X.K x))) (hk : PySem.W.keepIn X.K (.ref (gadr X.K x)) = true) (hb : Binds X.K fd ps [])
    (tk : Takes X W) (ha : DA X W (a :: es) fl) (hps : (a :: es).length = ps.length := by rfl) (hdb : (x == ("__debug__" : Str)) = false := by decide) (he : starEach (a :: es) X.env = (false, eval a X.env) :: starEach es X.env := by rfl) (hpl : (backTo pos (starEach es X.env)).any (·.1) = false := by rfl) :
    DE X W (.Call (.Name x p) (a :: es) [] pos) (eFn F fl) := by
  obtain ⟨ta, pa, la, sa⟩ := ha
  refine ⟨_, pe_callSD (E := fun σ c d H => W c d σ H) G hr hg hm hk hb .nil (fun σ => passAt tk σ) pa hdb he hpl, fun φ ρ env M σ H Q e m h => ?_⟩
  unfold eFn at h
  cases q : fl env M with
  | ok ds M1 =>
    rw [q] at h
    refine sa φ ρ env M σ H _ e m ?_
    rw [q]
    intro ρ1 H1 vs a1 b1 c1
    rw [List.append_nil]
    exact callF_sound (K := ⟨X.K, φ⟩) ((la _ _ _ _ q).trans hps) c1 b1 (Post.ext a1 h)
  | ex x M1 =>
    rw [q] at h
    refine sa φ ρ env M σ H _ e m ?_
    rw [q]
    exact h
  | st => rw [q] at h; exact h.elim
end
/-- a body that computes c, run from the parameters -/
theorem run_body {P : Program} {w : World} {K : PySem.W.Frag} {mg : Str → Option Value} {base : Heap} {qual : Str} {body : List Stmt} {scope : Scope} {f : Addr} {N ps : List Str} {c : Sx} {cdv : Value} {A : Around} {outer : List PySem.Env} {s : Shared} {H0 H : Hp} {E : XK} {vs : List V} {Q : VK}
    (S : FnScope N ps scope) (hb : DB (cxOf (L2.CX P w) P w K mg base N qual scope f cdv A outer s H0 E) (fun c d _ H => E c d H) body c) (h : spF K ps.length (defn ps.length N.length c) vs H Q E) :
    ∃ t, PSs (cxOf (L2.CX P w) P w K mg base N qual scope f cdv A outer s H0 E) body t ∧ t { nx := fun _ H' => Q .non H', rt := Q } (start N vs) H := by
  obtain ⟨φ, ρ, ds, M, hl, r, m, q⟩ := h
  obtain ⟨t, pt, st⟩ := hb
  have hpl : ps.length ≤ N.length := by
    have := congrArg List.length S.pre
    rw [List.length_take] at this
    omega
  refine ⟨t, pt, st φ ρ (ds.map some ++ List.replicate (N.length - ps.length) none) M _ H _ ?_ m ?_⟩
  · show RE ⟨K, φ⟩ ρ H _ (L2.start N vs)
    unfold L2.start
    rw [← r.length, hl]
    have h1 : ∀ {ds : List D} {vs : List V}, RDs ⟨K, φ⟩ ρ H ds vs → RE ⟨K, φ⟩ ρ H (ds.map some) (vs.map some) := by
      intro ds
      induction ds with
      | nil => intro vs h; cases h; exact .nil
      | cons d ds ih => intro vs h; cases h with | cons a b => exact .cons (fun d' e => by cases e; exact ⟨_, rfl, a⟩) (ih b)
    have h2 : ∀ n, RE ⟨K, φ⟩ ρ H (List.replicate n none) (List.replicate n none) := by
      intro n
      induction n with
      | zero => exact .nil
      | succ n ih => exact .cons (fun d' e => by cases e) ih
    have app : ∀ {e1 e2 : Env} {s1 s2 : L2.St}, RE ⟨K, φ⟩ ρ H e1 s1 → RE ⟨K, φ⟩ ρ H e2 s2 → RE ⟨K, φ⟩ ρ H (e1 ++ e2) (s1 ++ s2) := by
      intro e1 e2 s1 s2 h h'
      unfold RE at h
      induction h with
      | nil => exact h'
      | cons a b ih => exact .cons a ih
    exact app (h1 r) (h2 _)
  · unfold defn at q
    rw [if_pos hl] at q
    cases qc : c (ds.map some ++ List.replicate (N.length - ps.length) none) M with
    | nx e1 M1 => rw [qc] at q; exact fun ρ' H' σ' a b c' => q ρ' H' _ a b .non
    | rt d M1 => rw [qc] at q; exact q
    | ex x e1 M1 => rw [qc] at q; exact fun ρ' H' σ' dx a b _ d => q ρ' H' dx a b d
    | bk e1 M1 => rw [qc] at q; exact q.elim
    | ct e1 M1 => rw [qc] at q; exact q.elim
    | st => rw [qc] at q; exact q.elim
/-- a def's body computes c: then the def keeps the promise -/
theorem fn_ok {P : Program} {w : World} {K : PySem.W.Frag} {mg : Str → Option Value} {base : Heap} {x qual : Str} {params : Arguments} {body : List Stmt} {scope : Scope} {dvs : List V} {kws : List (Str × V)} {f : Addr} {fd : FuncData} {N ps : List Str} {k : Nat} {c : Sx}
    (F : FunD K x qual params body scope dvs kws f fd) (S : FnScope N ps scope)
    (hb : ∀ (cdv : Value) (A : Around) (outer : List PySem.Env) (s : Shared) (H : Hp) (E : XK), Room k (A.deeper (envOfC qual scope s.heap.objs.size f cdv)) → DB (cxOf (L2.CX P w) P w K mg base N qual scope f cdv A outer s H E) (fun c d _ H => E c d H) body c) :
    FnOk P w K mg base (L2.CX P w) (k + 1) f fd ps (spF K ps.length (defn ps.length N.length c)) := by
  refine fnD_ok F S (fun vs H Q E h => ?_) fun cdv A outer s H vs Q E hr h => ?_
  · obtain ⟨φ, ρ, ds, M, hl, r, _⟩ := h
    rw [← r.length, hl]
  · exact run_body S (hb cdv A outer s H E hr) h
theorem PostF.ext {K : Kx} {ρ ρ1 : List Addr} {H H1 : Hp} {r : Out} {Q : VK} {E : XK} (e : Ext ρ H ρ1 H1) (h : PostF K ρ H r Q E) : PostF K ρ1 H1 r Q E := by
  cases r with
  | ok d M => exact fun ρ' H' v a b c => h ρ' H' v (e.trans a) b c
  | ex x M => exact fun ρ' H' dx a b c => h ρ' H' dx (e.trans a) b c
  | st => exact h
end DL

namespace DL
open PySem L2 PyProof.Rows PySem.Spec

/-! ### dicts -/
def keyD : D → Option Key
  | .int i => some (.inl i)
  | .str x => some (.inr x)
  | _ => none
def dOfK : Key → D
  | .inl i => .int i
  | .inr x => .str x
def getA (kvs : List (Key × D)) (k : Key) : Option D := match kvs with
  | [] => none
  | p :: r => if p.1 = k then some p.2 else getA r k
def hasA (kvs : List (Key × D)) (k : Key) : Bool := (getA kvs k).isSome
def putA (kvs : List (Key × D)) (k : Key) (v : D) : List (Key × D) :=
  if hasA kvs k then kvs.map (fun p => if p.1 = k then (p.1, v) else p)
  else kvs ++ [(k, v)]
def mergeA (kvs more : List (Key × D)) : List (Key × D) := more.foldl (fun acc p => putA acc p.1 p.2) kvs
section
variable {K : Kx} {ρ : List Addr} {H : Hp} {M : Mem}
theorem keyD_ok {d : D} {v : V} {k : Key} (r : RD K ρ H d v) (e : keyD d = some k) : v = kV k := by
  cases r <;> cases e <;> rfl
theorem kV_rd (k : Key) : RD K ρ H (dOfK k) (kV k) := by
  cases k with
  | inl i => exact .int i
  | inr x => exact .str x
theorem RKs.get : ∀ {ds : List (Key × D)} {vs : List (Key × V)} (k : Key), RKs K ρ H ds vs → (getA ds k = none ∧ valV vs k = none) ∨ ∃ d v, getA ds k = some d ∧ valV vs k = some v ∧ RD K ρ H d v
  | _, _, k, .nil => .inl ⟨rfl, rfl⟩
  | p :: ds, q :: vs, k, .cons h t => by
    unfold getA
    by_cases e : p.1 = k
    · rw [if_pos e, valV_pos (h.1.symm.trans e)]
      exact .inr ⟨_, _, rfl, rfl, h.2⟩
    · rw [if_neg e, valV_neg (fun z => e (h.1.trans z))]
      exact RKs.get k t
theorem RKs.put {ds : List (Key × D)} {vs : List (Key × V)} {k : Key} {d : D} {v : V} (h : RKs K ρ H ds vs) (r : RD K ρ H d v) : RKs K ρ H (putA ds k d) (putK vs k v) := by
  have ha : hasA ds k = (vs.any fun kv => decide (kv.1 = k)) := by
    rw [valV_any]
    unfold hasA
    rcases h.get k with ⟨e1, e2⟩ | ⟨_, _, e1, e2, _⟩ <;> rw [e1, e2] <;> rfl
  unfold putA putK
  rw [ha]
  split
  · rename_i hh
    clear ha hh
    unfold RKs at h
    induction h with
    | nil => exact .nil
    | @cons p q _ _ a b ih =>
      refine .cons ?_ ih
      show (if p.1 = k then (p.1, d) else p).1 = (if q.1 = k then (q.1, v) else q).1 ∧ RD K ρ H (if p.1 = k then (p.1, d) else p).2 (if q.1 = k then (q.1, v) else q).2
      by_cases e : p.1 = k
      · rw [if_pos e, if_pos (a.1.symm.trans e)]
        exact ⟨a.1, r⟩
      · rw [if_neg e, if_neg (fun z => e (a.1.trans z))]
        exact a
  · have app : ∀ {ds es : List (Key × D)} {vs ws : List (Key × V)}, RKs K ρ H ds vs → RKs K ρ H es ws → RKs K ρ H (ds ++ es) (vs ++ ws) := by
      intro ds es vs ws h h'
      unfold RKs at h
      induction h with
      | nil => exact h'
      | cons a b ih => exact .cons a ih
    exact app h (.cons ⟨rfl, r⟩ .nil)
theorem RKs.merge {more : List (Key × D)} {mv : List (Key × V)} (h : RKs K ρ H more mv) : ∀ {ds : List (Key × D)} {vs : List (Key × V)}, RKs K ρ H ds vs → RKs K ρ H (mergeA ds more) (mergeK vs mv) := by
  unfold RKs at h
  induction h with
  | nil => intro ds vs h; exact h
  | @cons p q _ _ a b ih =>
    intro ds vs h
    have e := a.1
    show RKs K ρ H (mergeA (putA ds p.1 p.2) _) (mergeK (putK vs q.1 q.2) _)
    rw [← e]
    exact ih (h.put a.2)
theorem RKs.length {ds : List (Key × D)} {vs : List (Key × V)} (h : RKs K ρ H ds vs) : ds.length = vs.length := Paired.length h
end
/-- dict(t) of a tuple of pairs -/
def kvsD : List D → Option (List (Key × D))
  | [] => some []
  | .tup [k, v] :: r => match keyD k, kvsD r with
    | some k, some q => some ((k, v) :: q)
    | _, _ => none
  | _ => none
def nDict : OpN := fun xs M => match xs with
  | [.tup ds] => match kvsD ds with
    | some kvs => .ok (.ref M.length) (M ++ [.dic (mergeA [] kvs)])
    | none => .st
  | _ => .st
section
variable {X : Cx} {W : WX}
theorem pair_list {pins : List (Addr × Obj)} {σ : L2.St} {H : Hp} {s : Shared} (I : Inv X pins σ H s) : ∀ {ts : List Addr} {kvs : List (Key × V)}, Paired (fun t kv => SqT X.K H t [kV kv.1, kv.2]) ts kvs →
    ∃ (ps : List (Value × Value)) (prs : List (Key × Value)), KV kvs prs ∧ ps.length = ts.length ∧ prs.length = ts.length ∧ ∀ (j : Nat) k v, ps[j]? = some (k, v) → ∃ b key, ts[j]? = some b ∧ IsTup s.heap b #[k, v] ∧ prs[j]? = some (key, v) ∧ keyIs key k = true
  | _, _, .nil => ⟨[], [], .nil, rfl, rfl, fun j k v e => by simp at e⟩
  | _, _, .cons (a := t) (b := kv) h r => by
    obtain ⟨ps, prs, q1, q2, q3, q4⟩ := pair_list I r
    obtain ⟨its, rv, ht, _⟩ := Inv.tuple I h
    obtain ⟨u, y, rfl, ru, ry⟩ := vals2 rv
    refine ⟨(u, y) :: ps, (kv.1, y) :: prs, .cons ⟨rfl, ry⟩ q1, by simp [q2], by simp [q3], fun j k v e => ?_⟩
    cases j with
    | zero =>
      simp only [List.getElem?_cons_zero, Option.some.injEq, Prod.mk.injEq] at e
      obtain ⟨rfl, rfl⟩ := e
      exact ⟨t, kv.1, rfl, ht, rfl, kV_is (P := X.prog) (w := X.w) ru⟩
    | succ j => exact q4 j k v (by simpa using e)
def rDictT (K : PySem.W.Frag) : List V → Hp → VK → Prop := fun xs H Q => ∃ (a : Addr) (ts : List Addr) (kvs : List (Key × V)), xs = [.ref a] ∧ (FzT H a (ts.map V.ref) ∨ KT K a (ts.map V.ref)) ∧ Paired (fun t kv => SqT K H t [kV kv.1, kv.2]) ts kvs ∧
  ∀ p, H p = none → Q (.ref p) (upd H p (.dK (mergeK [] kvs)))
theorem call_dictT (hc : X.calm = true) : CallR X (.type "dict") (rDictT X.K) := by
  intro pins s σ H xs us Q I r
  intro h
  obtain ⟨a, ts, kvs, e, ha, hp, q⟩ := h
  subst e
  obtain ⟨u, e, rx⟩ := vals1 r
  subst e
  have rx' : u = Value.ref a := rx
  subst rx'
  obtain ⟨ps, prs, rel, l1, l2, at_⟩ := pair_list I hp
  -- the tuple itself
  obtain ⟨items, hi, hsq, hz⟩ : ∃ items : List Value, Vals (ts.map V.ref) items ∧ PlainSeq "tuple" s.heap a items.toArray ∧ ts.length ≤ sizeLine := by
    rcases ha with ⟨o, ha, hd⟩ | ⟨o, its, n, h1, h2, h3, h4, h5, h6⟩
    · obtain ⟨e1, z, its, rv, o', e2, hc, n, hdat⟩ := I.hok a _ ha
      rw [e1] at e2
      cases e2
      exact ⟨its, rv, ⟨o, n, e1, hc, hd, hdat⟩, by simpa using z⟩
    · refine ⟨its.toList, h6, ⟨o, n, I.kIn a o h1, h2, h3, by simpa using h4⟩, ?_⟩
      have := h6.length
      simp at this
      omega
  have ei := refs_at hi
  subst ei
  have ok : PlainSeq "tuple" s.heap a (ts.map Value.ref).toArray ∧ PairItems s.heap (ts.map Value.ref).toArray (fun j => ts.getD j 0) ps := by
    refine ⟨hsq, by simp [l1], fun j k v e => ?_⟩
    obtain ⟨b, key, e1, e2, _⟩ := at_ j k v e
    refine ⟨by simp [e1, List.getD], ?_⟩
    have e3 : ts.getD j 0 = b := by simp [List.getD_eq_getElem?_getD, e1]
    show PairAt s.heap (ts.getD j 0) k v
    rw [e3]
    exact .inl e2
  refine PySem.call_dict_pairs (knd := mixKind X.prog X.w) (kvs := prs) (PairArg.tuple a _ _ ps) (I.ok.hd hc) ok ⟨by rw [l2, l1], fun i key v hr => ?_⟩ (by rw [l1]; exact hz) fun h' tk hd' kp => ?_
  · obtain ⟨b, ky, _, _, e3, e4⟩ := at_ i key v hr
    exact ⟨ky, e3, e4⟩
  · have big : (s.heap.objs.size == sysModules) = false := beq_eq_false_iff_ne.mpr (Nat.ne_of_gt I.big)
    have len : (mergeK [] kvs).length ≤ sizeLine := by
      have h1 := (length_mergeK kvs [])
      have h2 := rel.length
      simp at h1
      omega
    have lay : ObjOk X.prog X.w (upd H s.heap.objs.size (.dK (mergeK [] kvs))) h' s.heap.objs.size (.dK (mergeK [] kvs)) := ⟨len, big, merged [] prs, KV.merge rel .nil, hd'⟩
    exact ⟨.ref s.heap.objs.size, _, I.laid (t' := tk) (fun b o e => kp b o (by simp) e) (Nat.le_refl _) lay, rfl, q _ (I.hok.fresh (Nat.le_refl _))⟩
theorem kvsD_ok {K : Kx} {ρ : List Addr} {H : Hp} : ∀ {ds : List D} {vs : List V} {kvs : List (Key × D)}, RDs K ρ H ds vs → kvsD ds = some kvs → ∃ (ts : List Addr) (ws : List (Key × V)), vs = ts.map V.ref ∧ RKs K ρ H kvs ws ∧ Paired (fun t kv => SqT K.K H t [kV kv.1, kv.2]) ts ws
  | [], _, _, .nil, e => by cases e; exact ⟨[], [], rfl, .nil, .nil⟩
  | d :: ds, _, kvs, .cons h t, e => by
    unfold kvsD at e
    split at e
    · cases ‹_ :: _ = ([] : List D)›
    · rename_i k v r q
      cases q
      split at e
      · rename_i k' q' e1 e2
        cases e
        obtain ⟨ts, ws, rfl, r1, r2⟩ := kvsD_ok t e2
        cases h with
        | tup hh rr =>
          obtain ⟨v1, v2, rfl, ra, rb⟩ := rr.two
          have := keyD_ok ra e1
          subst this
          exact ⟨_ :: ts, (k', v2) :: ws, rfl, .cons ⟨rfl, rb⟩ r1, .cons hh.sq r2⟩
      · cases e
    · cases e
theorem cd_dict (hc : X.calm = true) : CallD X W (.type "dict") nDict := by
  refine ⟨_, call_dictT hc, fun φ ρ M σ H xs vs Q m r h => ?_⟩
  unfold nDict at h
  split at h
  · obtain ⟨v, rfl, rd⟩ := r.one
    cases rd with
    | @tup _ a ys hh rr =>
      split at h
      · rename_i kvs e
        obtain ⟨ts, ws, rfl, r1, r2⟩ := kvsD_ok rr e
        refine ⟨a, ts, ws, rfl, hh.elim (fun z => .inl z.1) .inr, r2, fun p hp => ?_⟩
        have ex : Ext ρ H (ρ ++ [p]) (upd H p (.dK (mergeK [] ws))) := .push hp
        have r3 : RKs ⟨X.K, φ⟩ ρ H (mergeA [] kvs) (mergeK [] ws) := RKs.merge r1 .nil
        refine h _ _ _ ex (m.push hp ⟨_, rfl, r3.ext ex⟩) (.ref ?_)
        rw [← m.len, List.getElem?_concat_length]
      · exact h.elim
  · exact h.elim

/-! d[k] = v, d.get(k, x), d[k], k in d -/
variable {pos p apos : Pos} {o e f a : Expr} {fo fe ff fa : Ev}
def sDput (fo fk fv : Ev) : Sx := fun env M => (fv env M).bindS env fun v M1 => (fo env M1).bindS env fun d M2 => (fk env M2).bindS env fun k M3 => match d, keyD k with
  | .ref l, some k => match M3[l]? with
    | some (.dic kvs) => if kvs.length < sizeLine then .nx env (M3.set l (.dic (putA kvs k v))) else .st
    | _ => .st
  | _, _ => .st
theorem ds_dput {pos' : Pos} (hu : X.A.units + 1 < cLine) (ho : DE X W o fo) (hi : DE X W e fe) (hv : DE X W a fa) (hs : swapsWith a (some (.Subscript o e pos')) pos.line X.env = pure false := by rfl) : DS X W (.Assign [.Subscript o e pos'] a pos) (sDput fo fe fa) := by
  obtain ⟨to, po, so⟩ := ho
  obtain ⟨ti, pi, si⟩ := hi
  obtain ⟨tv, pv, sv⟩ := hv
  refine ⟨_, ps_dput hu po pi pv hs, fun φ ρ env M σ H E re m h => ?_⟩
  refine sv φ ρ env M σ H _ re m (Post.bindS re h fun d M1 ρ1 H1 v a1 b1 c1 h1 => ?_)
  refine so φ ρ1 env M1 σ H1 _ (re.ext a1) b1 (Post.bindS (re.ext a1) h1 fun d2 M2 ρ2 H2 v2 a2 b2 c2 h2 => ?_)
  refine si φ ρ2 env M2 σ H2 _ ((re.ext a1).ext a2) b2 (Post.bindS ((re.ext a1).ext a2) h2 fun d3 M3 ρ3 H3 v3 a3 b3 c3 h3 => ?_)
  split at h3
  · rename_i l k hk
    split at h3
    · rename_i kvs hl
      split at h3
      · rename_i hz
        cases c2.ext a3 with
        | @ref _ q hq =>
          obtain ⟨u, hu', ws, e1, rr⟩ := b3.at_ _ _ _ hl hq
          subst e1
          have e2 := keyD_ok c3 hk
          subst e2
          have ex : Ext ρ3 H3 ρ3 (upd H3 q (.dK (putK ws k v))) := .write (by rw [hu']; simp) (List.mem_of_getElem? hq)
          have r0 := (c1.ext a2).ext a3
          refine ⟨q, _, rfl, DPut.k hu' (by rw [← rr.length]; exact hz), ?_⟩
          exact h3 _ _ _ ex (b3.set hq ⟨_, rfl, (rr.put r0).ext ex⟩) ((((re.ext a1).ext a2).ext a3).ext ex)
      · exact h3.elim
    · exact h3.elim
  · exact h3.elim
/-- d.get(k, x) -/
def eDget2 (fo fk fx : Ev) : Ev := fun env M => (fo env M).bind fun d M1 => match d with
  | .ref l => match M1[l]? with
    | some (.dic _) => (fk env M1).bind fun k M2 => (fx env M2).bind fun x M3 => match keyD k, M3[l]? with
      | some k, some (.dic kvs) => .ok ((getA kvs k).getD x) M3
      | _, _ => .st
    | _ => .st
  | _ => .st
theorem de_dget2 (hu : X.A.units + 1 < cLine) (ho : DE X W o fo) (he : DE X W e fe) (hf : DE X W f ff) (m : M2 X o "get" apos e f pos) : DE X W (.Call (.Attribute o "get" apos) [e, f] [] pos) (eDget2 fo fe ff) := by
  obtain ⟨to, po, so⟩ := ho
  obtain ⟨ti, pi, si⟩ := he
  obtain ⟨tv, pv, sv⟩ := hf
  refine ⟨_, pe_dget2 hu po pi pv m, fun φ ρ env M σ H Q re m h => ?_⟩
  refine so φ ρ env M σ H _ re m (Post.bind h fun d M1 ρ1 H1 v a1 b1 c1 h1 => ?_)
  split at h1
  · rename_i l
    split at h1
    · rename_i kvs0 hl0
      cases c1 with
      | @ref _ q hq =>
        obtain ⟨u0, hu0, ws0, e0, _⟩ := b1.at_ _ _ _ hl0 hq
        subst e0
        refine ⟨q, rfl, .inl ⟨_, .inl hu0⟩, si φ ρ1 env M1 σ H1 _ (re.ext a1) b1 (Post.bind h1 fun d2 M2 ρ2 H2 v2 a2 b2 c2 h2 => ?_)⟩
        refine sv φ ρ2 env M2 σ H2 _ ((re.ext a1).ext a2) b2 (Post.bind h2 fun d3 M3 ρ3 H3 v3 a3 b3 c3 h3 => ?_)
        split at h3
        · rename_i k kvs hk hl
          have hq3 := get_pre (a2.trans a3) hq
          obtain ⟨u, hu', ws, e1, rr⟩ := b3.at_ _ _ _ hl hq3
          subst e1
          have e2 := keyD_ok c2 hk
          subst e2
          refine ⟨_, DGet.k hu', ?_⟩
          rcases rr.get k with ⟨g1, g2⟩ | ⟨dd, vv, g1, g2, g3⟩
          · rw [g2]
            rw [g1] at h3
            exact h3 _ _ _ .refl b3 c3
          · rw [g2]
            rw [g1] at h3
            exact h3 _ _ _ .refl b3 g3
        · exact h3.elim
    · exact h1.elim
  · exact h1.elim

/-! ### methods of lists of the store -/
def mAppend (fo : Ev) (fa : Ev) : Ev := fun env M => (fo env M).bind fun d M1 => match d with
  | .ref l => match M1[l]? with
    | some (.lst _) => (fa env M1).bind fun x M2 => match M2[l]? with
      | some (.lst xs) => if xs.length < sizeLine then .ok .non (M2.set l (.lst (xs ++ [x]))) else .st
      | _ => .st
    | _ => .st
  | _ => .st
theorem de_append (ho : DE X W o fo) (ha : DE X W a fa) (hs1 : starEach [a] X.env = (false, eval a X.env) :: starEach [] X.env := by rfl)
    (hbase : attributeBase o "append" X.env (eval o X.env) = eval o X.env := by rfl)
    (hfew : ((backTo pos (starEach [a] X.env)).all (fun x => !x.1) && (backToKw pos (keywordEach [] X.env)).all (fun x => x.1.isSome)
      && decide ([a].length + ([] : List Keyword).length + (if ([] : List Keyword).isEmpty then 0 else 1) < 30)) = true := by rfl)
    (hline : (apos.endLine == pos.line) = true := by rfl) (hplain : (backTo pos (starEach [] X.env)).any (·.1) = false := by rfl) : DE X W (.Call (.Attribute o "append" apos) [a] [] pos) (mAppend fo fa) := by
  obtain ⟨to, po, so⟩ := ho
  obtain ⟨ta, pa, sa⟩ := ha
  refine ⟨_, pe_bm PySem.F.plainAttrs_list PySem.F.slot_list_append PySem.F.type_list_append mt_append po (pa_cons pa pa_nil hs1) hbase hfew hline hs1 hplain, fun φ ρ env M σ H Q re m h => ?_⟩
  refine so φ ρ env M σ H _ re m (Post.bind h fun d M1 ρ1 H1 v a1 b1 c1 h1 => ?_)
  split at h1
  · rename_i l
    split at h1
    · rename_i xs0 hl0
      cases c1 with
      | @ref _ q hq =>
        obtain ⟨u0, hu0, ws0, e0, _⟩ := b1.at_ _ _ _ hl0 hq
        subst e0
        refine ⟨.inl ⟨rfl, _, .inl (.inl hu0)⟩, sa φ ρ1 env M1 σ H1 _ (re.ext a1) b1 (Post.bind h1 fun d2 M2 ρ2 H2 v2 a2 b2 c2 h2 => ?_)⟩
        split at h2
        · rename_i xs hl
          split at h2
          · rename_i hz
            have hq2 := get_pre a2 hq
            obtain ⟨u, hu', ws, e1, rr⟩ := b2.at_ _ _ _ hl hq2
            subst e1
            have ex : Ext ρ2 H2 ρ2 (upd H2 q (.lst (ws ++ [v2]))) := .write (by rw [hu']; simp) (List.mem_of_getElem? hq2)
            refine ⟨q, ws, v2, rfl, rfl, hu', by rw [← rr.length]; exact hz, ?_⟩
            exact h2 _ _ _ ex (b2.set hq2 ⟨_, rfl, (rr.append (.cons c2 .nil)).ext ex⟩) .non
          · exact h2.elim
        · exact h2.elim
    · exact h1.elim
  · exact h1.elim
end
end DL

namespace DL
open PySem L2 PyProof.Rows PySem.Spec

/-! ### pure data from heap to heap -/
def DataO : HO → Prop
  | .tup _ => True
  | .lst _ => True
  | .ins _ _ _ => True
  | .dK _ => True
  | .frz _ (.tup _) => True
  | .frz _ (.lst _) => True
  | _ => False
structure Tr (K K' : Kx) (ρ ρ' : List Addr) (H H' : Hp) : Prop where
  eq : K'.K = K.K
  mv : ∀ a o, H a = some o → DataO o → a ∉ ρ → a ∉ K.φ → H' a = some o ∧ a ∉ ρ' ∧ a ∉ K'.φ
section
variable {K K' : Kx} {ρ ρ' : List Addr} {H H' : Hp}
theorem SqTf.tr {a : Addr} {xs : List V} (t : Tr K K' ρ ρ' H H') (h : SqTf K ρ H a xs) : SqTf K' ρ' H' a xs := by
  rcases h with ⟨⟨o, e, d⟩, n⟩ | k
  · obtain ⟨h1, h2, h3⟩ := t.mv a _ e trivial n.1 n.2
    exact .inl ⟨⟨o, h1, d⟩, h2, h3⟩
  · exact .inr (by rw [t.eq]; exact k)
theorem SqLf.tr {a : Addr} {xs : List V} (t : Tr K K' ρ ρ' H H') (h : SqLf K ρ H a xs) : SqLf K' ρ' H' a xs := by
  rcases h with ⟨h | ⟨o, h⟩, n⟩ | k
  · obtain ⟨h1, h2, h3⟩ := t.mv a _ h trivial n.1 n.2
    exact .inl ⟨.inl h1, h2, h3⟩
  · obtain ⟨h1, h2, h3⟩ := t.mv a _ h trivial n.1 n.2
    exact .inl ⟨.inr ⟨o, h1⟩, h2, h3⟩
  · exact .inr (by rw [t.eq]; exact k)
mutual
theorem RD.tr (t : Tr K K' ρ ρ' H H') : ∀ {d v}, RD K ρ H d v → pureD d = true → RD K' ρ' H' d v
  | _, _, .non, _ => .non
  | _, _, .bl b, _ => .bl b
  | _, _, .int i, _ => .int i
  | _, _, .str x, _ => .str x
  | _, _, .tup h r, p => .tup (h.tr t) (RDs.tr t r p)
  | _, _, .itm h n r, p => by
    obtain ⟨h1, h2⟩ := t.mv _ _ h trivial n.1 n.2
    exact .itm h1 h2 (RDs.tr t r p)
  | _, _, .lst h n r, p => by
    obtain ⟨h1, h2⟩ := t.mv _ _ h trivial n.1 n.2
    exact .lst h1 h2 (RDs.tr t r p)
  | _, _, .fzl h r, p => .fzl (h.tr t) (RDs.tr t r p)
  | _, _, .ref h, p => by cases p
  | _, _, .glo, _ => by rw [← t.eq]; exact .glo
  | _, _, .ty n, _ => .ty n
  | _, _, .inst h n r, p => by
    obtain ⟨h1, h2⟩ := t.mv _ _ h trivial n.1 n.2
    exact .inst (by rw [t.eq]; exact h1) h2 (RFs.tr t r p)
  | _, _, .dcv h n r, p => by
    obtain ⟨h1, h2⟩ := t.mv _ _ h trivial n.1 n.2
    exact .dcv h1 h2 (RKv.tr t r p)
theorem RDs.tr (t : Tr K K' ρ ρ' H H') : ∀ {ds vs}, RDs K ρ H ds vs → puresD ds = true → RDs K' ρ' H' ds vs
  | _, _, .nil, _ => .nil
  | _, _, .cons h q, p => by
    have p' := Bool.and_eq_true_iff.mp p
    exact .cons (RD.tr t h p'.1) (RDs.tr t q p'.2)
theorem RFs.tr (t : Tr K K' ρ ρ' H H') : ∀ {ds vs}, RFs K ρ H ds vs → puresF ds = true → RFs K' ρ' H' ds vs
  | _, _, .nil, _ => .nil
  | _, _, .cons h q, p => by
    have p' := Bool.and_eq_true_iff.mp p
    exact .cons (RD.tr t h p'.1) (RFs.tr t q p'.2)
theorem RKv.tr (t : Tr K K' ρ ρ' H H') : ∀ {ds vs}, RKv K ρ H ds vs → puresK ds = true → RKv K' ρ' H' ds vs
  | _, _, .nil, _ => .nil
  | _, _, .cons h q, p => by
    have p' := Bool.and_eq_true_iff.mp p
    exact .cons (RD.tr t h p'.1) (RKv.tr t q p'.2)
end
theorem RKs.tr (t : Tr K K' ρ ρ' H H') : ∀ {ds : List (Key × D)} {vs}, RKs K ρ H ds vs → (ds.all fun p => pureD p.2) = true → RKs K' ρ' H' ds vs
  | _, _, .nil, _ => .nil
  | _, _, .cons h q, p => by
    have p' := Bool.and_eq_true_iff.mp p
    exact .cons ⟨h.1, h.2.tr t p'.1⟩ (RKs.tr t q p'.2)
/-- the pure part of the slots -/
def pureO : Option D → Option D
  | some d => if pureD d then some d else none
  | none => none
def envP (env : Env) : Env := env.map pureO
theorem RE.tr {env : Env} {σ : L2.St} (t : Tr K K' ρ ρ' H H') (h : RE K ρ H env σ) : RE K' ρ' H' (envP env) σ := by
  unfold RE at h ⊢
  unfold envP
  induction h with
  | nil => exact .nil
  | @cons o p _ _ a b ih =>
    refine .cons (fun d hd => ?_) ih
    cases o with
    | none => cases hd
    | some e =>
      have hd' : (if pureD e then some e else none) = some d := hd
      split at hd'
      · rename_i hp
        cases hd'
        obtain ⟨v, hv, r⟩ := a d rfl
        exact ⟨v, hv, r.tr t hp⟩
      · cases hd'
end

/-! ### comprehensions over a dict of the store, which stands locked meanwhile -/
def itemsA (kvs : List (Key × D)) : List D := kvs.map fun p => .itm [dOfK p.1, p.2]
def valsA (kvs : List (Key × D)) : List D := kvs.map (·.2)
def eLcK (src : List (Key × D) → List D) (i : Nat) (vs : List Nat) (g : Tg) (ft fe : Ev) : Ev := fun env M => match env[i]? with
  | some (some (.ref l)) => match M[l]? with
    | some (.dic kvs) => if (kvs.all fun p => pureD p.2) && decide ((src kvs).length ≤ sizeLine) then
        match compD cYes g ft fe (wipeE (envP env) vs) (src kvs) [] with
        | .ok ys _ => if puresD ys then .ok (.lst ys) M else .st
        | _ => .st
      else .st
    | _ => .st
  | _ => .st
section
variable {X : Cx} {W : WX} {elt tg : Expr} {ifs : List Expr} {scope : Scope} {pos p apos : Pos} {g : Tg} {ft fe : Ev}
theorem frz_ne {H : Hp} {d a : Addr} {o : HO} {od : Obj} {ws : List (Key × V)} (h : H d = some (.frz od (.dK ws))) (ha : H a = some o) (k : DataO o) : a ≠ d := by
  rintro rfl
  rw [h] at ha
  cases ha
  exact k
/-- the walk over the locked dict -/
theorem lck_sound {φ : List Addr} {src : List (Key × D) → List D} {i : Nat} {vs : List Nat} {ρ : List Addr} {env : Env} {M : Mem} {σ : L2.St} {H : Hp} {Q : VK} {wi : TI} (e : RE ⟨X.K, φ⟩ ρ H env σ) (m : MOk ⟨X.K, φ⟩ ρ M H)
    (hwi : ∀ {v d od ws} {H1 : Hp} {R : It → Hp → Prop}, σ[i]? = some (some v) → v = .ref d → H1 d = some (.frz od (.dK ws)) →
      (∀ J, (∀ {φ1 φ2 : List Addr} {ρ1 : List Addr} {kvs : List (Key × D)}, RKs ⟨X.K, φ1⟩ ρ1 H1 kvs ws → ρ1 = [] → Hid ⟨X.K, φ1⟩ ⟨X.K, φ2⟩ H1 → JW ⟨X.K, φ2⟩ J [] H1 cYes (src kvs)) → R J H1) → wi σ H1 R)
    (h : Post ⟨X.K, φ⟩ W ρ σ H (eLcK src i vs g ft fe env M) Q) : tLockE (tLc wi (tOfG X.K vs g) (tOfT X.K W0 ft) (tOf X.K W0 fe) vs) σ H Q := by
  unfold eLcK at h
  split at h
  · rename_i l hl
    split at h
    · rename_i kvs hk
      split at h
      · rename_i hp0
        have hp := (Bool.and_eq_true_iff.mp hp0).1
        have hz : (src kvs).length ≤ sizeLine := of_decide_eq_true (Bool.and_eq_true_iff.mp hp0).2
        obtain ⟨v, hv, rv⟩ := e.get hl
        cases rv with
        | @ref _ d hd =>
          obtain ⟨u, hu, ws, e1, rr⟩ := m.at_ _ _ _ hk hd
          subst e1
          have dr : d ∈ ρ := List.mem_of_getElem? hd
          refine ⟨d, _, hu, trivial, fun od => ?_⟩
          have hd1 : (upd H d (.frz od (.dK ws))) d = some (.frz od (.dK ws)) := upd_same
          generalize hH1 : upd H d (.frz od (.dK ws)) = H1 at hd1
          have ne1 : ∀ a, a ≠ d → H1 a = H a := fun a z => by rw [← hH1]; exact upd_ne z
          -- the inner place: an empty store, all of the outer one but the dict hidden
          let φ1 : List Addr := (φ ++ ρ).filter fun a => decide (a ≠ d)
          have mem1 : ∀ a, a ∈ φ1 ↔ (a ∈ φ ∨ a ∈ ρ) ∧ a ≠ d := fun a => by
            simp only [φ1, List.mem_filter, List.mem_append, decide_eq_true_eq]
          have tr1 : Tr ⟨X.K, φ⟩ ⟨X.K, φ1⟩ ρ [] H H1 := ⟨rfl, fun a o q _ n1 n2 => by
            have nd : a ≠ d := fun z => n1 (by rw [z]; exact dr)
            exact ⟨by rw [ne1 a nd]; exact q, by simp, fun z => by
              rcases ((mem1 a).mp z).1 with z | z
              · exact n2 z
              · exact n1 z⟩⟩
          have m1 : MOk ⟨X.K, φ1⟩ [] [] H1 := ⟨.nil, rfl, fun a z => by
            obtain ⟨z1, z2⟩ := (mem1 a).mp z
            obtain ⟨u, hu, ow⟩ := m.ownAt z1.symm
            exact ⟨u, by rw [ne1 a z2]; exact hu, ow⟩, fun l ob a q => by simp at q⟩
          have rk1 : RKs ⟨X.K, φ1⟩ [] H1 kvs ws := RKs.tr tr1 rr hp
          have re1 := (e.tr tr1).wipe vs
          cases qc : compD cYes g ft fe (wipeE (envP env) vs) (src kvs) [] with
          | ok ys Mf =>
            rw [qc] at h
            simp only at h
            split at h
            · rename_i hpy
              refine hwi hv rfl hd1 fun J jw => fun Dd hD => ?_
              refine lc_sound (K := ⟨X.K, φ1⟩) (Q := fun v H' => H' d = some (.frz od (.dK ws)) ∧ Q v (upd H' d (.dK ws))) hz m1 (fun φ2 hh => jw rk1 rfl hh) re1 hD qc fun ρ' H' w ex m' r => ?_
              have hd' : H' d = some (.frz od (.dK ws)) := ex.keep d _ hd1 (by simp)
              refine ⟨hd', ?_⟩
              have exo : Ext ρ H ρ (upd H' d (.dK ws)) := ⟨⟨[], by simp, by simp⟩, fun a o q n => by
                have nd : a ≠ d := fun z => n (by rw [z]; exact dr)
                rw [upd_ne nd]
                exact ex.keep a o (by rw [ne1 a nd]; exact q) (by simp), fun a q => by
                by_cases nd : a = d
                · subst nd; rw [upd_same] at q; cases q
                · rw [upd_ne nd] at q
                  have := ex.live a q
                  rw [ne1 a nd] at this
                  exact this⟩
              refine h ρ _ w exo (m.keep exo fun a z => ?_) (RD.tr (K := ⟨X.K, φ1⟩) (K' := ⟨X.K, φ⟩) (ρ := ρ') (ρ' := ρ) (H' := upd H' d (.dK ws)) ⟨rfl, fun a o q k n1 n2 => ?_⟩ r hpy)
              · by_cases nd : a = d
                · subst nd; rw [upd_same, hu]
                · obtain ⟨u2, hu2, _⟩ := m.ownAt (.inl z)
                  rw [upd_ne nd, hu2]
                  exact ex.keep a u2 (by rw [ne1 a nd]; exact hu2) (by simp)
              · have nd := frz_ne hd' q k
                refine ⟨by rw [upd_ne nd]; exact q, fun z => n2 ((mem1 a).mpr ⟨.inr z, nd⟩), fun z => n2 ((mem1 a).mpr ⟨.inl z, nd⟩)⟩
            · exact h.elim
          | ex x Mf => rw [qc] at h; exact h.elim
          | st => rw [qc] at h; exact h.elim
      · exact h.elim
    · exact h.elim
  · exact h.elim
theorem jw_items {K : Kx} {H1 : Hp} {d : Addr} {od : Obj} {kvs : List (Key × D)} {ws : List (Key × V)} (hd : H1 d = some (.frz od (.dK ws))) (r : RKs K [] H1 kvs ws) : JW K (Iti d od ws) [] H1 cYes (itemsA kvs) := by
  intro i ρ2 H2 M2 ex m _
  have h2 := ex.keep d _ hd (by simp)
  have r2 := RKs.ext ex r
  have hl := r.length
  refine ⟨fun e he => ?_, fun hi => ⟨h2, by rw [hi]; unfold itemsA; simp; omega⟩⟩
  unfold itemsA at he
  rw [List.getElem?_map] at he
  cases q : kvs[i]? with
  | none => rw [q] at he; cases he
  | some p =>
    rw [q] at he
    cases he
    obtain ⟨v, hv, rr⟩ : ∃ v, ws[i]? = some (p.1, v) ∧ RD K ρ2 H2 p.2 v := by
      clear hd h2 hl r
      unfold RKs at r2
      induction r2 generalizing i with
      | nil => simp at q
      | @cons a b _ _ h t ih =>
        cases i with
        | zero => simp at q; subst q; exact ⟨b.2, by rw [h.1]; rfl, h.2⟩
        | succ j => exact ih j (by simpa using q)
    have hlt : i < ws.length := by
      obtain ⟨h1, _⟩ := List.getElem?_eq_some_iff.mp hv
      exact h1
    refine ⟨⟨h2, hlt⟩, fun x H' y => ?_⟩
    obtain ⟨T, k, v', e1, rfl, hT, rfl⟩ := y
    rw [hv] at e1
    cases e1
    have e3 : Ext ρ2 H2 ρ2 (upd H2 T (.tup [kV p.1, v])) := .new hT
    exact ⟨e3, m.new hT, .itm upd_same (m.fresh hT) (.cons (kV_rd _) (.cons (rr.ext e3) .nil))⟩
theorem jw_vals {K : Kx} {H1 : Hp} {d : Addr} {od : Obj} {kvs : List (Key × D)} {ws : List (Key × V)} (hd : H1 d = some (.frz od (.dK ws))) (r : RKs K [] H1 kvs ws) : JW K (Itd d od ws) [] H1 cYes (valsA kvs) := by
  intro i ρ2 H2 M2 ex m _
  have h2 := ex.keep d _ hd (by simp)
  have r2 := RKs.ext ex r
  have hl := r.length
  refine ⟨fun e he => ?_, fun hi => ⟨h2, by rw [hi]; unfold valsA; simp; omega⟩⟩
  unfold valsA at he
  rw [List.getElem?_map] at he
  cases q : kvs[i]? with
  | none => rw [q] at he; cases he
  | some p =>
    rw [q] at he
    cases he
    obtain ⟨v, hv, rr⟩ : ∃ v, ws[i]? = some (p.1, v) ∧ RD K ρ2 H2 p.2 v := by
      clear hd h2 hl r
      unfold RKs at r2
      induction r2 generalizing i with
      | nil => simp at q
      | @cons a b _ _ h t ih =>
        cases i with
        | zero => simp at q; subst q; exact ⟨b.2, by rw [h.1]; rfl, h.2⟩
        | succ j => exact ih j (by simpa using q)
    have hlt : i < ws.length := by
      obtain ⟨h1, _⟩ := List.getElem?_eq_some_iff.mp hv
      exact h1
    refine ⟨⟨h2, hlt⟩, fun x H' y => ?_⟩
    obtain ⟨rfl, k, e1⟩ := y
    rw [hv] at e1
    cases e1
    exact ⟨.refl, m, rr⟩
theorem de_lcItems (own : List (Str × Nat)) (i : Nat) {x : Str} {elts : List Expr} {kk : Nat} {tpos : Pos} {xpos cpos : Pos} (hc : X.calm = true) (hN : X.N.Nodup) (ok : BlkOk X.N X.env.scope scope own)
    (hg : ∀ (s : Shared) (H : Hp) (C : Addr) (cl : List (Str × Addr)) (fp : List Addr), DGv (X.blk s H scope (compEnvC scope cl C X.env) fp) (own.map (·.2)) (.Tuple elts kk tpos) g)
    (ht : ∀ (s : Shared) (H : Hp) (C : Addr) (cl : List (Str × Addr)) (fp : List Addr), DTs (X.blk s H scope (compEnvC scope cl C X.env) fp) W0 ifs ft)
    (he : ∀ (s : Shared) (H : Hp) (C : Addr) (cl : List (Str × Addr)) (fp : List Addr), DE (X.blk s H scope (compEnvC scope cl C X.env) fp) W0 elt fe)
    (hi : X.N[i]? = some x := by rfl) (hv : Vis X.env.scope x := by first | exact Or.inl rfl | exact Or.inr (Or.inl rfl) | exact Or.inr (Or.inr rfl)) (hd : (x == ("__debug__" : Str)) = false := by decide)
    (hcd : (x == ("__classdict__" : Str)) = false := by decide)
    (hbase : attributeBase (.Name x xpos) "items" X.env (eval (.Name x xpos) X.env) = eval (.Name x xpos) X.env := by rfl) (hline : (apos.endLine == cpos.line) = true := by rfl)
    (hs : ∀ y, foldedSetIterable (.Call (.Attribute (.Name x xpos) "items" apos) [] [] cpos) X.env y = pure y := by intro _; rfl) :
    DE X W (.ListComp elt [⟨(.Tuple elts kk tpos), .Call (.Attribute (.Name x xpos) "items" apos) [] [] cpos, ifs, 0⟩] scope pos) (eLcK itemsA i (own.map (·.2)) g ft fe) := by
  refine ⟨_, pe_lock (pe_lc (g := tOfG X.K (own.map (·.2)) g) (tt := tOfT X.K W0 ft) (te := tOf X.K W0 fe) hc hN (pi_items (pe_var hi hv hd hcd) hbase hline) ok (fun s H C cl fp => (hg s H C cl fp).canon) (fun s H C cl fp => (ht s H C cl fp).canon) (fun s H C cl fp => (he s H C cl fp).canon) hs), fun φ ρ env M σ H Q e m h => ?_⟩
  refine lck_sound e m (fun {v d od ws H1 R} h1 h2 h3 h4 => ?_) h
  refine ⟨v, h1, d, od, ws, h2, h3, h4 _ fun {φ1 φ2 ρ1 kvs} rk hr hh => ?_⟩
  subst hr
  exact jw_items (K := ⟨X.K, φ2⟩) h3 (L2.Paired.mapP rk fun p q z => ⟨z.1, z.2.hide hh⟩)
theorem de_lcVals (own : List (Str × Nat)) (i : Nat) {x : Str} {xpos cpos : Pos} (hc : X.calm = true) (hN : X.N.Nodup) (ok : BlkOk X.N X.env.scope scope own)
    (hg : ∀ (s : Shared) (H : Hp) (C : Addr) (cl : List (Str × Addr)) (fp : List Addr), DGv (X.blk s H scope (compEnvC scope cl C X.env) fp) (own.map (·.2)) tg g)
    (ht : ∀ (s : Shared) (H : Hp) (C : Addr) (cl : List (Str × Addr)) (fp : List Addr), DTs (X.blk s H scope (compEnvC scope cl C X.env) fp) W0 ifs ft)
    (he : ∀ (s : Shared) (H : Hp) (C : Addr) (cl : List (Str × Addr)) (fp : List Addr), DE (X.blk s H scope (compEnvC scope cl C X.env) fp) W0 elt fe)
    (hi : X.N[i]? = some x := by rfl) (hv : Vis X.env.scope x := by first | exact Or.inl rfl | exact Or.inr (Or.inl rfl) | exact Or.inr (Or.inr rfl)) (hd : (x == ("__debug__" : Str)) = false := by decide)
    (hcd : (x == ("__classdict__" : Str)) = false := by decide)
    (hbase : attributeBase (.Name x xpos) "values" X.env (eval (.Name x xpos) X.env) = eval (.Name x xpos) X.env := by rfl) (hline : (apos.endLine == cpos.line) = true := by rfl)
    (hs : ∀ y, foldedSetIterable (.Call (.Attribute (.Name x xpos) "values" apos) [] [] cpos) X.env y = pure y := by intro _; rfl) :
    DE X W (.ListComp elt [⟨tg, .Call (.Attribute (.Name x xpos) "values" apos) [] [] cpos, ifs, 0⟩] scope pos) (eLcK valsA i (own.map (·.2)) g ft fe) := by
  refine ⟨_, pe_lock (pe_lc (g := tOfG X.K (own.map (·.2)) g) (tt := tOfT X.K W0 ft) (te := tOf X.K W0 fe) hc hN (pi_values (pe_var hi hv hd hcd) hbase hline) ok (fun s H C cl fp => (hg s H C cl fp).canon) (fun s H C cl fp => (ht s H C cl fp).canon) (fun s H C cl fp => (he s H C cl fp).canon) hs), fun φ ρ env M σ H Q e m h => ?_⟩
  refine lck_sound e m (fun {v d od ws H1 R} h1 h2 h3 h4 => ?_) h
  refine ⟨v, h1, d, od, ws, h2, h3, h4 _ fun {φ1 φ2 ρ1 kvs} rk hr hh => ?_⟩
  subst hr
  exact jw_vals (K := ⟨X.K, φ2⟩) h3 (L2.Paired.mapP rk fun p q z => ⟨z.1, z.2.hide hh⟩)
end
end DL

namespace DL
open PySem L2 PyProof.Rows PySem.Spec

/-! ### what is raised in a callee, wished for whatever the slots hold -/
/-- a wish that does not look at the slots -/
abbrev Blind (W : WX) : Prop := ∀ c d σ σ' H, W c d σ H → W c d σ' H
def anyE (W : WX) : XK := fun c d H => ∃ σ, W c d σ H
/-! ### instances -/
def insD (M : Mem) : D → Option (Str × List (Str × D))
  | .inst c fs => some (c, fs)
  | .ref l => match M[l]? with
    | some (.ins c fs) => some (c, fs)
    | _ => none
  | _ => none
def getFD (f : Str) : List (Str × D) → Option D
  | [] => none
  | (g, d) :: r => if f == g then some d else getFD f r
def putFD (f : Str) (v : D) : List (Str × D) → List (Str × D)
  | [] => [(f, v)]
  | (g, x) :: r => if g = f then (g, v) :: r else (g, x) :: putFD f v r
section
variable {K : Kx} {W : WX} {ρ : List Addr} {H : Hp} {M : Mem} {σ : L2.St}
theorem insD_ok {d : D} {v : V} {c : Str} {fs : List (Str × D)} (m : MOk K ρ M H) (r : RD K ρ H d v) (e : insD M d = some (c, fs)) : ∃ a dx gs, v = .ref a ∧ H a = some (.ins (gadr K.K c) dx gs) ∧ RFs K ρ H fs gs := by
  cases r with
  | inst h n r => cases e; exact ⟨_, _, _, rfl, h, r⟩
  | @ref l a h =>
    have e' : (match M[l]? with | some (.ins c fs) => some (c, fs) | _ => none) = some (c, fs) := e
    split at e'
    · rename_i c' fs' hx
      cases e'
      obtain ⟨u, hu, q⟩ := m.at_ _ _ _ hx h
      obtain ⟨dx, gs, rfl, r⟩ := q
      exact ⟨_, _, _, rfl, hu, r⟩
    · cases e'
  | _ => cases e
theorem RFs.look {f : Str} : ∀ {fs : List (Str × D)} {gs : List (Str × V)}, RFs K ρ H fs gs → (getFD f fs = none ∧ gs.lookup f = none) ∨ ∃ d v, getFD f fs = some d ∧ gs.lookup f = some v ∧ RD K ρ H d v
  | _, _, RFs.nil => .inl ⟨rfl, rfl⟩
  | _, _, @RFs.cons _ _ _ g d fs v gs h t => by
    unfold getFD
    rw [List.lookup_cons]
    cases e : f == g with
    | true => exact .inr ⟨d, v, rfl, rfl, h⟩
    | false => exact RFs.look t
theorem RFs.put {f : Str} {d : D} {v : V} (r : RD K ρ H d v) : ∀ {fs : List (Str × D)} {gs : List (Str × V)}, RFs K ρ H fs gs → RFs K ρ H (putFD f d fs) (putF f v gs)
  | _, _, .nil => .cons r .nil
  | _, _, @RFs.cons _ _ _ g x fs y gs h t => by
    unfold putFD putF
    by_cases e : g = f
    · rw [if_pos e, if_pos e]; exact .cons r t
    · rw [if_neg e, if_neg e]; exact .cons h (RFs.put r t)
theorem RFs.length : ∀ {fs : List (Str × D)} {gs : List (Str × V)}, RFs K ρ H fs gs → fs.length = gs.length
  | _, _, .nil => rfl
  | _, _, .cons _ t => congrArg (· + 1) (RFs.length t)
end
/-- e.f of an instance of c -/
def eFld (c f : Str) (fo : Ev) : Ev := fun env M => (fo env M).bind fun d M1 => match insD M1 d with
  | some (c', fs) => if c' = c then (match getFD f fs with
    | some x => .ok x M1
    | none => .st) else .st
  | none => .st
/-- e.f = v -/
def sFldS (c f : Str) (fo fv : Ev) : Sx := fun env M => (fv env M).bindS env fun v M1 => (fo env M1).bindS env fun d M2 => match d with
  | .ref l => match M2[l]? with
    | some (.ins c' fs) => if c' = c ∧ fs.length < 1000 then .nx env (M2.set l (.ins c (putFD f v fs))) else .st
    | _ => .st
  | _ => .st
/-- e.f, a property -/
def okO : Out → Out
  | .ok d M => .ok d M
  | _ => .st
def eProp (c : Str) (F : Fn) (fo : Ev) : Ev := fun env M => (fo env M).bind fun d M1 => match insD M1 d with
  | some (c', fs) => if c' = c then okO (callF F [d] M1) else .st
  | none => .st
def eMeth (c m : Str) (F : Fn) (fo : Ev) (fl : EvL) : Ev := fun env M => (fo env M).bind fun d M1 => match insD M1 d with
  | some (c', fs) => if c' = c ∧ getFD m fs = none then (fl env M1).bind fun ds M2 => callF F (d :: ds) M2 else .st
  | none => .st
def makeF (c : Str) (F : Fn) (ds : List D) (M : Mem) : Out := if puresD ds then
    match F (.ref 0 :: ds) [.ins c []] with
    | .ok .non M2 => match (M2[0]? : Option Ob) with
      | some (Ob.ins c' fs) => if c' = c ∧ puresF fs = true then .ok (.inst c fs) M else .st
      | _ => .st
    | .ex x _ => if puresF x.fs then .ex x M else .st
    | _ => .st
  else .st
def eMake (c : Str) (F : Fn) (fl : EvL) : Ev := fun env M => (fl env M).bind (makeF c F)
section
variable {K : Kx} {W : WX} {ρ : List Addr} {H : Hp} {M : Mem} {σ : L2.St}
theorem makeF_sound {n : Nat} {c : Str} {F : Fn} {ds : List D} {vs : List V} {Q : VK} (hn : ds.length + 1 = n) (r : RDs K ρ H ds vs) (m : MOk K ρ M H) (h : Post K W ρ σ H (makeF c F ds M) Q) {x dx : Addr} (h1 : H x = none) (h2 : H dx = none) (hne : dx ≠ x) :
    spF K.K n F (.ref x :: vs) (upd (upd H dx (.own x)) x (.ins (gadr K.K c) dx [])) (fun v H2 => v = .non ∧ Q (.ref x) H2) (fun c d H => W c d σ H) := by
  unfold makeF at h
  split at h
  · rename_i hp
    have s : Sub K ⟨K.K, K.φ ++ ρ⟩ ρ [] H := ⟨rfl, fun a o e h1 h2 => ⟨by simp, by simp [h1, h2]⟩⟩
    have m0 := m.empty
    have m1 := m0.new (o := .own x) h2
    have h1' : (upd H dx (.own x)) x = none := by rw [upd_ne (fun z => hne z.symm)]; exact h1
    have m2 : MOk ⟨K.K, K.φ ++ ρ⟩ ([] ++ [x]) ([] ++ [.ins c []]) (upd (upd H dx (.own x)) x (.ins (gadr K.K c) dx [])) := m1.push h1' ⟨dx, [], rfl, .nil⟩
    have e1 : Ext ([] : List Addr) H [] (upd H dx (.own x)) := .new h2
    have e2 : Ext ([] : List Addr) (upd H dx (.own x)) ([] ++ [x]) (upd (upd H dx (.own x)) x (.ins (gadr K.K c) dx [])) := .push h1'
    have fr := m.fresh h1
    have live : ∀ a, (upd (upd H dx (.own x)) x (.ins (gadr K.K c) dx [])) a = none → H a = none := fun a z => e1.live a (e2.live a z)
    have kp : ∀ a o, H a = some o → (upd (upd H dx (.own x)) x (.ins (gadr K.K c) dx [])) a = some o ∧ a ≠ x := fun a o q => by
      have n1 : a ≠ x := ne_of_none q h1
      have n2 : a ≠ dx := ne_of_none q h2
      exact ⟨by rw [upd_ne n1, upd_ne n2]; exact q, n1⟩
    refine ⟨K.φ ++ ρ, [x], .ref 0 :: ds, [.ins c []], hn, .cons (.ref rfl) (((r.sub s hp).ext e1).ext e2), m2, ?_⟩
    have fin : ∀ {ρ2 : List Addr} {H2 : Hp}, Ext [x] (upd (upd H dx (.own x)) x (.ins (gadr K.K c) dx [])) ρ2 H2 → Ext ρ H ρ H2 ∧ MOk K ρ M H2 ∧ Sub ⟨K.K, K.φ ++ ρ⟩ K ρ2 ρ H2 := fun {ρ2 H2} e => by
      have ex : Ext ρ H ρ H2 := ⟨⟨[], by simp, by simp⟩, fun a o q n => e.keep a o (kp a o q).1 (by simpa using (kp a o q).2), fun a z => live a (e.live a z)⟩
      refine ⟨ex, m.keep ex fun a z => ?_, ⟨rfl, fun a o q h1 h2 => ?_⟩⟩
      · obtain ⟨u, hu, _⟩ := m.ownAt (.inl z)
        rw [hu]
        exact e.keep a u (kp a u hu).1 (by simpa using (kp a u hu).2)
      · simp only [List.mem_append, not_or] at h2
        exact ⟨h2.2, h2.1⟩
    split at h
    · rename_i M2 q
      rw [q]
      split at h
      · rename_i c' fs q2
        split at h
        · rename_i hc
          obtain ⟨rfl, hpf⟩ := hc
          intro ρ2 H2 v a b rv
          cases rv
          obtain ⟨ex, m3, s1⟩ := fin a
          have hx : ρ2[0]? = some x := get_pre a rfl
          obtain ⟨u, hu, dx', gs, rfl, rr⟩ := b.at_ _ _ _ q2 hx
          exact ⟨rfl, h _ _ _ ex m3 (.inst hu fr (rr.sub s1 hpf))⟩
        · exact h.elim
      · exact h.elim
    · rename_i ex M2 q
      rw [q]
      split at h
      · rename_i hp2
        intro ρ2 H2 dx2 a b rx
        obtain ⟨e3, m3, s1⟩ := fin a
        exact h _ _ _ e3 m3 (rx.sub s1 hp2)
      · exact h.elim
    · exact h.elim
  · exact h.elim
end
section
variable {X : Cx} {W : WX} {pos p apos pos' : Pos} {o a e : Expr} {es : List Expr} {fo fv : Ev} {fl : EvL} {x c f m : Str} {k : Nat} {fd : FuncData} {ps : List Str} {F : Fn} {fa pa : Addr}
theorem de_fld (hc : Cls X.K (gadr X.K c)) (hn : NoAttr X.K (gadr X.K c) f) (ho : DE X W o fo) (hb : attributeBase o f X.env (eval o X.env) = eval o X.env := by rfl) : DE X W (.Attribute o f pos) (eFld c f fo) := by
  obtain ⟨to, po, so⟩ := ho
  refine ⟨_, pe_fld po hb, fun φ ρ env M σ H Q e m h => ?_⟩
  refine so φ ρ env M σ H _ e m (Post.bind h fun d M1 ρ1 H1 v a1 b1 c1 h1 => ?_)
  split at h1
  · rename_i c' fs hi
    split at h1
    · rename_i hcc
      subst hcc
      obtain ⟨a, dx, gs, rfl, ha, rr⟩ := insD_ok b1 c1 hi
      rcases rr.look (f := f) with ⟨g1, _⟩ | ⟨d2, v2, g1, g2, g3⟩
      · rw [g1] at h1; exact h1.elim
      · rw [g1] at h1
        exact ⟨a, _, dx, gs, v2, rfl, ha, hc, hn, g2, h1 _ _ _ .refl b1 g3⟩
    · exact h1.elim
  · exact h1.elim
theorem ds_fld (hc : Cls X.K (gadr X.K c)) (hn : NoAttr X.K (gadr X.K c) f) (ho : DE X W o fo) (hv : DE X W a fv) (hs : swapsWith a (some (.Attribute o f pos')) pos.line X.env = pure false := by rfl) : DS X W (.Assign [.Attribute o f pos'] a pos) (sFldS c f fo fv) := by
  obtain ⟨to, po, so⟩ := ho
  obtain ⟨tv, pv, sv⟩ := hv
  refine ⟨_, ps_fld po pv hs, fun φ ρ env M σ H E re m h => ?_⟩
  refine sv φ ρ env M σ H _ re m (Post.bindS re h fun d M1 ρ1 H1 v a1 b1 c1 h1 => ?_)
  refine so φ ρ1 env M1 σ H1 _ (re.ext a1) b1 (Post.bindS (re.ext a1) h1 fun d2 M2 ρ2 H2 v2 a2 b2 c2 h2 => ?_)
  split at h2
  · rename_i l
    split at h2
    · rename_i c' fs hl
      split at h2
      · rename_i hcc
        obtain ⟨rfl, hz⟩ := hcc
        cases c2 with
        | @ref _ q hq =>
          obtain ⟨u, hu, dx, gs, rfl, rr⟩ := b2.at_ _ _ _ hl hq
          have ex : Ext ρ2 H2 ρ2 (upd H2 q (.ins (gadr X.K c') dx (putF f v gs))) := .write (by rw [hu]; simp) (List.mem_of_getElem? hq)
          refine ⟨q, _, dx, gs, rfl, hu, hc, hn, by rw [← rr.length]; exact hz, ?_⟩
          exact h2 _ _ _ ex (b2.set hq ⟨dx, _, rfl, (rr.put (c1.ext a2)).ext ex⟩) (((re.ext a1).ext a2).ext ex)
      · exact h2.elim
    · exact h2.elim
  · exact h2.elim
theorem de_prop (hc : Cls X.K (gadr X.K c)) (hp : PropOf X.K (gadr X.K c) f pa fa) (G : FnOk X.prog X.w X.K X.mg X.base (L2.CX X.prog X.w) k fa fd ps (spF X.K 1 F)) (hr : Room (k + 1) X.A) (hb : Binds X.K fd ps []) (tk : Takes X.nox W0) (ho : DE X W o fo)
    (hab : attributeBase o f X.env (eval o X.env) = eval o X.env := by rfl) : DE X W (.Attribute o f pos) (eProp c F fo) := by
  obtain ⟨to, po, so⟩ := ho
  refine ⟨_, pe_prop (E := fun _ _ _ => False) po hc hp G hr hb .nil (fun pins σ H s e s' I z => passAt tk σ pins H s e s' I z) hab, fun φ ρ env M σ H Q e m h => ?_⟩
  refine so φ ρ env M σ H _ e m (Post.bind h fun d M1 ρ1 H1 v a1 b1 c1 h1 => ?_)
  split at h1
  · rename_i c' fs hi
    split at h1
    · rename_i hcc
      subst hcc
      obtain ⟨a, dx, gs, rfl, ha, rr⟩ := insD_ok b1 c1 hi
      refine ⟨a, dx, gs, rfl, ha, ?_⟩
      refine callF_sound (K := ⟨X.K, φ⟩) (W := W0) (σ := σ) rfl (.cons c1 .nil) b1 ?_
      cases q : callF F [d] M1 with
      | ok d2 M2 => rw [q] at h1; exact h1
      | ex y M2 => rw [q] at h1; exact h1.elim
      | st => rw [q] at h1; exact h1.elim
    · exact h1.elim
  · exact h1.elim
theorem pe_methS {C fa : Addr} {fd : FuncData} {ps : List Str} {k : Nat} {sp : Sp} {to : TE} {t : TA} {o a : Expr} {es : List Expr} {m : Str} {pos apos : Pos} {pl : Sem Bool} (he : PE X o to) (hc : Cls X.K C) (hm : Meth X.K C m fa) (G : FnOk X.prog X.w X.K X.mg X.base (L2.CX X.prog X.w) k fa fd ps sp) (hr : Room k X.A) (hb : Binds X.K fd ps []) (tk : Takes X W) (ha : PA X (a :: es) t)
    (hst : starEach (a :: es) X.env = (false, eval a X.env) :: starEach es X.env) (hpl : (backTo pos (starEach es X.env)).any (·.1) = false)
    (ht : eval (.Call (.Attribute o m apos) (a :: es) [] pos) X.env = (eval o X.env >>= fun ov => standAt apos.atName >>= fun _ => holding [ov] (getMethod ov m pl) >>= fun z => callWith pos z.1 z.2 (backTo pos (starEach (a :: es) X.env)) (backToKw pos (keywordEach [] X.env)))) :
    PE X (.Call (.Attribute o m apos) (a :: es) [] pos) (fun σ H Q => tMeth C m sp [] (WE W σ) to t σ H Q) := by
  (refine ⟨fun pins s σ H Q I h => ?_⟩)
  refine PySem.W.methodCall_KW (pl := pl) (thn (he.run pins s σ H _ I h) fun u s1 ⟨x, H1, I1, rx, b, dx, fs, ex, ea, l, q⟩ => ?_) ht
  subst ex
  obtain rfl : u = Value.ref b := rx
  refine getmeth_ok I1 ea hc hm l ?_
  refine PySem.W.callWith_K (first := [.ref b]) (h₀ := X.base) I.ok.mod.kin hm.kp (thn (ha.run pos pins s1 σ H1 _ I1 q) fun us s2 ⟨vs, H2, I2, r, q2⟩ => ⟨I2.kIn, ?_⟩) hst hpl
  exact run_fnSD (E := WE W) (us := .ref b :: us) (vs := .ref b :: vs) (dvs := []) G hr hb .nil (passAt tk σ) I2 (.cons rfl r) q2
theorem run_makeS {C fa : Addr} {fd : FuncData} {ps : List Str} {k : Nat} {sp : Sp} {pins : List (Addr × Obj)} {σ : L2.St} {H : Hp} {s : Shared} {Q : VK} {us : List Value} {vs : List V} (Mk : Mk X.K C fa) (G : FnOk X.prog X.w X.K X.mg X.base (L2.CX X.prog X.w) k fa fd ps sp) (hr : Room (k + 1) X.A) (hb : Binds X.K fd ps [])
    (tk : Takes X W) (I : Inv X pins σ H s) (r : Vals vs us)
    (h : ∀ x dx, H x = none → H dx = none → dx ≠ x → sp (.ref x :: vs) (upd (upd H dx (.own x)) x (.ins C dx [])) (fun v H2 => v = .non ∧ Q (.ref x) H2) (WE W σ)) :
    (wpAny (model X.prog X.w) X.A (call (.ref C) us) (EP X pins σ Q) X.xe s) := by
  (have hq := h (s.heap.objs.size + 1) s.heap.objs.size (I.hok.fresh (Nat.le_succ _)) (I.hok.fresh (Nat.le_refl _)) (Nat.ne_of_lt (Nat.lt_succ_self _)))
  (have I2 := Inv.made (C := C) I)
  (have r2 : Vals (V.ref (s.heap.objs.size + 1) :: vs) (Value.ref (s.heap.objs.size + 1) :: us) := .cons rfl r)
  have hl : (Value.ref (s.heap.objs.size + 1) :: us).length = ps.length := (r2.length.symm.trans (G.len _ _ _ _ hq))
  have hbb := hb _ (Value.ref (s.heap.objs.size + 1) :: us) I2.kIn (by rw [List.append_nil]; exact hl)
  rw [List.append_nil] at hbb
  refine wpAny_call (make_map (f := fa) I.kIn Mk.makes Mk.init (beq_iff_eq.mp Mk.fn) (codeAny_mono (G.run _ X.stack _ _ ⟨Value.ref (s.heap.objs.size + 1) :: us, []⟩ (Value.ref (s.heap.objs.size + 1) :: us) _ _ (WE W σ) (hr.make C us []) (I2.env0.make C us []) hbb r2 hq) fun z s' hq' => ?_))
  cases z with
  | error e => exact passAt tk σ pins _ _ e s' I2 hq'
  | ok fl =>
    cases fl with
    | ret u =>
      (obtain ⟨v, H', I3, rv, ev, q3⟩ := I2.after hq')
      subst ev
      (exact ⟨rv, ⟨V.ref (s.heap.objs.size + 1), H', I3, rfl, q3⟩⟩)
    | next | brk | cont => exact False.elim hq'
theorem pe_makeS {C fa : Addr} {fd : FuncData} {ps : List Str} {k : Nat} {sp : Sp} {t : TA} {x : Str} {a : Expr} {es : List Expr} {p pos : Pos} (Mk : Mk X.K C fa) (G : FnOk X.prog X.w X.K X.mg X.base (L2.CX X.prog X.w) k fa fd ps sp) (hr : Room (k + 1) X.A) (hg : Gl X x) (hm : X.mg x = some (.ref C)) (hb : Binds X.K fd ps []) (tk : Takes X W)
    (ha : PA X (a :: es) t) (hdb : (x == ("__debug__" : Str)) = false) (he : starEach (a :: es) X.env = (false, eval a X.env) :: starEach es X.env) (hpl : (backTo pos (starEach es X.env)).any (·.1) = false) :
    PE X (.Call (.Name x p) (a :: es) [] pos) (fun σ H Q => t σ H fun vs H1 => ∀ y dy, H1 y = none → H1 dy = none → dy ≠ y → sp (.ref y :: vs) (upd (upd H1 dy (.own y)) y (.ins C dy [])) (fun v H2 => v = .non ∧ Q (.ref y) H2) (WE W σ)) := by
  (refine ⟨fun pins s σ H Q I h => ?_⟩)
  (refine wpAny_Call_Name_kw (ld_glob I hg hm ?_ hdb))
  refine PySem.W.callWith_K (h₀ := X.base) I.ok.mod.kin Mk.kp (thn (ha.run pos pins s σ H _ I h) fun us s1 ⟨vs, H1, I1, r, q⟩ => ⟨I1.kIn, ?_⟩) he hpl
  exact run_makeS Mk G hr hb tk I1 r q
theorem de_meth {pl : Sem Bool} (hc : Cls X.K (gadr X.K c)) (hm : Meth X.K (gadr X.K c) m fa) (G : FnOk X.prog X.w X.K X.mg X.base (L2.CX X.prog X.w) k fa fd ps (spF X.K ps.length F)) (hr : Room k X.A) (hb : Binds X.K fd ps []) (tk : Takes X W) (ho : DE X W o fo)
    (ha : DA X W (a :: es) fl) (hps : (a :: es).length + 1 = ps.length := by rfl)
    (hst : starEach (a :: es) X.env = (false, eval a X.env) :: starEach es X.env := by rfl) (hpl : (backTo pos (starEach es X.env)).any (·.1) = false := by rfl)
    (ht : eval (.Call (.Attribute o m apos) (a :: es) [] pos) X.env = (eval o X.env >>= fun ov => standAt apos.atName >>= fun _ => holding [ov] (getMethod ov m pl) >>= fun z => callWith pos z.1 z.2 (backTo pos (starEach (a :: es) X.env)) (backToKw pos (keywordEach [] X.env))) := by rfl) : DE X W (.Call (.Attribute o m apos) (a :: es) [] pos) (eMeth c m F fo fl) := by
  obtain ⟨to, po, so⟩ := ho
  obtain ⟨ta, pa, la, sa⟩ := ha
  refine ⟨_, pe_methS (pl := pl) po hc hm G hr hb tk pa hst hpl ht, fun φ ρ env M σ H Q e mm h => ?_⟩
  refine so φ ρ env M σ H _ e mm (Post.bind h fun d M1 ρ1 H1 v a1 b1 c1 h1 => ?_)
  split at h1
  · rename_i c' fs hi
    split at h1
    · rename_i hcc
      obtain ⟨rfl, hnm⟩ := hcc
      obtain ⟨a, dx, gs, rfl, ha, rr⟩ := insD_ok b1 c1 hi
      have hlk : gs.lookup m = none := by
        rcases rr.look with ⟨_, g2⟩ | ⟨_, _, g1, _, _⟩
        · exact g2
        · rw [hnm] at g1; cases g1
      refine ⟨a, dx, gs, rfl, ha, hlk, ?_⟩
      cases q : fl env M1 with
      | ok ds M2 =>
        rw [q] at h1
        refine sa φ ρ1 env M1 σ H1 _ (e.ext a1) b1 ?_
        rw [q]
        intro ρ2 H2 vs a2 b2 c2
        rw [List.append_nil]
        exact callF_sound (K := ⟨X.K, φ⟩) (σ := σ) (by show ds.length + 1 = _; rw [la _ _ _ _ q]; exact hps) (.cons (c1.ext a2) c2) b2 (Post.ext a2 h1)
      | ex y M2 =>
        rw [q] at h1
        refine sa φ ρ1 env M1 σ H1 _ (e.ext a1) b1 ?_
        rw [q]
        exact h1
      | st => rw [q] at h1; exact h1.elim
    · exact h1.elim
  · exact h1.elim
theorem de_make (Mk : Mk X.K (gadr X.K x) fa) (G : FnOk X.prog X.w X.K X.mg X.base (L2.CX X.prog X.w) k fa fd ps (spF X.K ps.length F)) (hr : Room (k + 1) X.A) (hg : Gl X x) (hm : X.mg x = some (.ref (gadr X.K x))) (hb : Binds X.K fd ps []) (tk : Takes X W)
    (ha : DA X W (a :: es) fl) (hps : (a :: es).length + 1 = ps.length := by rfl) (hdb : (x == ("__debug__" : Str)) = false := by decide) (he : starEach (a :: es) X.env = (false, eval a X.env) :: starEach es X.env := by rfl) (hpl : (backTo pos (starEach es X.env)).any (·.1) = false := by rfl) :
    DE X W (.Call (.Name x p) (a :: es) [] pos) (eMake x F fl) := by
  obtain ⟨ta, pa, la, sa⟩ := ha
  refine ⟨_, pe_makeS Mk G hr hg hm hb tk pa hdb he hpl, fun φ ρ env M σ H Q e m h => ?_⟩
  unfold eMake at h
  cases q : fl env M with
  | ok ds M1 =>
    rw [q] at h
    refine sa φ ρ env M σ H _ e m ?_
    rw [q]
    intro ρ1 H1 vs a1 b1 c1 y dy h1 h2 hne
    exact makeF_sound (K := ⟨X.K, φ⟩) (σ := σ) (by rw [la _ _ _ _ q]; exact hps) c1 b1 (Post.ext a1 h) h1 h2 hne
  | ex y M1 =>
    rw [q] at h
    refine sa φ ρ env M σ H _ e m ?_
    rw [q]
    exact h
  | st => rw [q] at h; exact h.elim
end
end DL

namespace DL
open PySem L2 PyProof.Rows PySem.Spec

/-! ### a def by its name: it computes F -/
structure CalD (P : Program) (w : World) (K : PySem.W.Frag) (mg : Str → Option Value) (base : Heap) (k : Nat) (x : Str) (n : Nat) (F : Fn) : Prop where
  mg_ : mg x = some (.ref (gadr K x))
  kp : PySem.W.keepIn K (.ref (gadr K x)) = true
  ok : ∃ (fd : FuncData) (ps : List Str), ps.length = n ∧ FnOk P w K mg base (L2.CX P w) k (gadr K x) fd ps (spF K n F) ∧ L2.Binds K fd ps []
/-- a method m of the class c -/
structure MetD (P : Program) (w : World) (K : PySem.W.Frag) (mg : Str → Option Value) (base : Heap) (k : Nat) (c m : Str) (n : Nat) (F : Fn) : Prop where
  cls : Cls K (gadr K c)
  ok : ∃ (fa : Addr) (fd : FuncData) (ps : List Str), ps.length = n ∧ Meth K (gadr K c) m fa ∧ FnOk P w K mg base (L2.CX P w) k fa fd ps (spF K n F) ∧ L2.Binds K fd ps []
/-- a property -/
structure PrpD (P : Program) (w : World) (K : PySem.W.Frag) (mg : Str → Option Value) (base : Heap) (k : Nat) (c m : Str) (F : Fn) : Prop where
  cls : Cls K (gadr K c)
  ok : ∃ (pa fa : Addr) (fd : FuncData) (ps : List Str), PropOf K (gadr K c) m pa fa ∧ FnOk P w K mg base (L2.CX P w) k fa fd ps (spF K 1 F) ∧ L2.Binds K fd ps []
/-- a class that is made by its name -/
structure MakD (P : Program) (w : World) (K : PySem.W.Frag) (mg : Str → Option Value) (base : Heap) (k : Nat) (x : Str) (n : Nat) (F : Fn) : Prop where
  mg_ : mg x = some (.ref (gadr K x))
  ok : ∃ (fa : Addr) (fd : FuncData) (ps : List Str), ps.length = n + 1 ∧ Mk K (gadr K x) fa ∧ FnOk P w K mg base (L2.CX P w) k fa fd ps (spF K (n + 1) F) ∧ L2.Binds K fd ps []
section
variable {X : Cx} {W : WX} {pos p apos : Pos} {o a : Expr} {es : List Expr} {fo : Ev} {fl : EvL} {x c m : Str} {k j n : Nat} {F : Fn}
theorem de_cal (C : CalD X.prog X.w X.K X.mg X.base k x n F) (hr : Room j X.A) (hk : k ≤ j) (hg : Gl X x) (tk : Takes X W) (ha : DA X W (a :: es) fl) (hn : (a :: es).length = n := by rfl) (hdb : (x == ("__debug__" : Str)) = false := by decide)
    (h1 : starEach (a :: es) X.env = (false, eval a X.env) :: starEach es X.env := by rfl) (h2 : (backTo pos (starEach es X.env)).any (·.1) = false := by rfl) : DE X W (.Call (.Name x p) (a :: es) [] pos) (eFn F fl) := by
  obtain ⟨fd, ps, hl, G, b⟩ := C.ok
  subst hl
  exact de_fn G (hr.mono hk) hg C.mg_ C.kp b tk ha hn hdb h1 h2
theorem de_prp (C : PrpD X.prog X.w X.K X.mg X.base k c m F) (hr : Room j X.A) (hk : k + 1 ≤ j) (tk : Takes X.nox W0) (ho : DE X W o fo) (h1 : attributeBase o m X.env (eval o X.env) = eval o X.env := by rfl) : DE X W (.Attribute o m pos) (eProp c F fo) := by
  obtain ⟨pa, fa, fd, ps, hp, G, b⟩ := C.ok
  exact de_prop C.cls hp G (hr.mono hk) b tk ho h1
theorem de_mak (C : MakD X.prog X.w X.K X.mg X.base k x n F) (hr : Room j X.A) (hk : k + 1 ≤ j) (hg : Gl X x) (tk : Takes X W) (ha : DA X W (a :: es) fl) (hn : (a :: es).length = n := by rfl) (hdb : (x == ("__debug__" : Str)) = false := by decide)
    (h1 : starEach (a :: es) X.env = (false, eval a X.env) :: starEach es X.env := by rfl) (h2 : (backTo pos (starEach es X.env)).any (·.1) = false := by rfl) : DE X W (.Call (.Name x p) (a :: es) [] pos) (eMake x F fl) := by
  obtain ⟨fa, fd, ps, hl, M, G, b⟩ := C.ok
  rw [← hl] at G
  exact de_make M G (hr.mono hk) hg C.mg_ b tk ha (by rw [hl, hn]) hdb h1 h2
theorem de_met {pl : Sem Bool} (C : MetD X.prog X.w X.K X.mg X.base k c m n F) (hr : Room j X.A) (hk : k ≤ j) (tk : Takes X W) (ho : DE X W o fo) (ha : DA X W (a :: es) fl) (hn : (a :: es).length + 1 = n := by rfl)
    (h1 : starEach (a :: es) X.env = (false, eval a X.env) :: starEach es X.env := by rfl) (h2 : (backTo pos (starEach es X.env)).any (·.1) = false := by rfl)
    (ht : eval (.Call (.Attribute o m apos) (a :: es) [] pos) X.env = (eval o X.env >>= fun ov => standAt apos.atName >>= fun _ => holding [ov] (getMethod ov m pl) >>= fun z => callWith pos z.1 z.2 (backTo pos (starEach (a :: es) X.env)) (backToKw pos (keywordEach [] X.env))) := by rfl) :
    DE X W (.Call (.Attribute o m apos) (a :: es) [] pos) (eMeth c m F fo fl) := by
  obtain ⟨fa, fd, ps, hl, hm, G, b⟩ := C.ok
  subst hl
  exact de_meth C.cls hm G (hr.mono hk) b tk ho ha hn h1 h2 ht
end

/-! ### a call that brings a new list into the store -/
def newF (F : Fn) (ds : List D) (M : Mem) : Out := if puresD ds then
    match F ds [] with
    | .ok (.ref l) M1 => match (M1[l]? : Option Ob) with
      | some ob => if pureOb ob then .ok (.ref M.length) (M ++ [ob]) else .st
      | none => .st
    | .ex x _ => if puresF x.fs then .ex x M else .st
    | _ => .st
  else .st
def eFnN (F : Fn) (f : EvL) : Ev := fun env M => (f env M).bind (newF F)
section
variable {K : Kx} {W : WX} {ρ : List Addr} {H : Hp} {M : Mem} {σ : L2.St}
theorem newF_sound {n : Nat} {F : Fn} {ds : List D} {vs : List V} {Q : VK} (hn : ds.length = n) (r : RDs K ρ H ds vs) (m : MOk K ρ M H) (h : Post K W ρ σ H (newF F ds M) Q) : spF K.K n F vs H Q (fun c d H => W c d σ H) := by
  unfold newF at h
  split at h
  · rename_i hp
    have s : Sub K ⟨K.K, K.φ ++ ρ⟩ ρ [] H := ⟨rfl, fun a o e h1 h2 => ⟨by simp, by simp [h1, h2]⟩⟩
    refine ⟨K.φ ++ ρ, [], ds, [], hn, r.sub s hp, m.empty, ?_⟩
    have fin : ∀ {ρ1 : List Addr} {H1 : Hp}, Ext [] H ρ1 H1 → Ext ρ H ρ H1 ∧ MOk K ρ M H1 ∧ Sub ⟨K.K, K.φ ++ ρ⟩ K ρ1 ρ H1 ∧ ∀ a ∈ ρ1, H a = none := fun {ρ1 H1} e => by
      have ex : Ext ρ H ρ H1 := ⟨⟨[], by simp, by simp⟩, fun a o q _ => e.keep a o q (by simp), e.live⟩
      refine ⟨ex, m.keep ex fun a z => ?_, ⟨rfl, fun a o q h1 h2 => ?_⟩, fun a z => ?_⟩
      · obtain ⟨u, hu, _⟩ := m.ownAt (.inl z)
        rw [hu]
        exact e.keep a u hu (by simp)
      · simp only [List.mem_append, not_or] at h2
        exact ⟨h2.2, h2.1⟩
      · obtain ⟨t, e1, e2⟩ := e.pre
        rw [e1] at z
        exact e2 a (by simpa using z)
    split at h
    · rename_i l M1 q
      rw [q]
      split at h
      · rename_i ob hob
        split at h
        · rename_i hpo
          intro ρ1 H1 v a b c
          obtain ⟨ex, m1, s1, nw⟩ := fin a
          cases c with
          | @ref _ b0 hb0 =>
            have hn0 := nw b0 (List.mem_of_getElem? hb0)
            have fr := m.fresh hn0
            obtain ⟨u, hu, ro⟩ := b.at_ _ _ _ hob hb0
            have ex2 : Ext ρ H (ρ ++ [b0]) H1 := ⟨⟨[b0], rfl, fun a z => by
              have : a = b0 := by simpa using z
              subst this; exact hn0⟩, ex.keep, ex.live⟩
            have sb : Sub ⟨K.K, K.φ ++ ρ⟩ K ρ1 (ρ ++ [b0]) H1 := ⟨rfl, fun a o q h1 h2 => by
              simp only [List.mem_append, not_or] at h2
              refine ⟨fun z => ?_, h2.1⟩
              rcases List.mem_append.mp z with z | z
              · exact h2.2 z
              · have : a = b0 := by simpa using z
                subst this
                exact h1 (List.mem_of_getElem? hb0)⟩
            have m2 : MOk K (ρ ++ [b0]) (M ++ [ob]) H1 := by
              refine ⟨?_, by simp [m.len], m1.hid, fun l2 ob2 a2 h3 h4 => ?_⟩
              · rw [List.nodup_append]
                refine ⟨m.nd, by simp, fun a ha b hb z => ?_⟩
                obtain rfl := List.mem_singleton.mp hb
                exact fr.1 (z ▸ ha)
              · by_cases hl : l2 < M.length
                · rw [List.getElem?_append_left hl] at h3
                  rw [List.getElem?_append_left (by rw [m.len]; exact hl)] at h4
                  obtain ⟨v2, hv2, r2⟩ := m.at_ l2 ob2 a2 h3 h4
                  refine ⟨v2, a.keep a2 v2 hv2 (by simp), r2.ext ex2⟩
                · have hl2 : l2 < (M ++ [ob]).length := (List.getElem?_eq_some_iff.mp h3).1
                  have hl3 : l2 = M.length := by simp at hl2; omega
                  subst hl3
                  rw [List.getElem?_concat_length] at h3
                  rw [← m.len, List.getElem?_concat_length] at h4
                  cases h3; cases h4
                  exact ⟨u, hu, ro.sub sb hpo⟩
            exact h _ _ _ ex2 m2 (.ref (by rw [← m.len, List.getElem?_concat_length]))
        · exact h.elim
      · exact h.elim
    · rename_i x M1 q
      rw [q]
      split at h
      · rename_i hp2
        intro ρ1 H1 dx a b c
        obtain ⟨ex, m1, s1, nw⟩ := fin a
        exact h _ _ _ ex m1 (c.sub s1 hp2)
      · exact h.elim
    · exact h.elim
  · exact h.elim
end
section
variable {X : Cx} {W : WX} {pos p : Pos} {a b c : Expr} {es : List Expr} {fl : EvL} {x : Str} {k j n : Nat} {F : Fn} {fa fb fc : Ev}
theorem de_calN (C : CalD X.prog X.w X.K X.mg X.base k x n F) (hr : Room j X.A) (hk : k ≤ j) (hg : Gl X x) (tk : Takes X W) (ha : DA X W (a :: es) fl) (hn : (a :: es).length = n := by rfl) (hdb : (x == ("__debug__" : Str)) = false := by decide)
    (h1 : starEach (a :: es) X.env = (false, eval a X.env) :: starEach es X.env := by rfl) (h2 : (backTo pos (starEach es X.env)).any (·.1) = false := by rfl) : DE X W (.Call (.Name x p) (a :: es) [] pos) (eFnN F fl) := by
  obtain ⟨fd, ps, hl, G, bd⟩ := C.ok
  obtain ⟨ta, pa, la, sa⟩ := ha
  refine ⟨_, pe_callSD (E := fun σ c d H => W c d σ H) G (hr.mono hk) hg C.mg_ C.kp bd .nil (fun σ => passAt tk σ) pa hdb h1 h2, fun φ ρ env M σ H Q e m h => ?_⟩
  unfold eFnN at h
  cases q : fl env M with
  | ok ds M1 =>
    rw [q] at h
    refine sa φ ρ env M σ H _ e m ?_
    rw [q]
    intro ρ1 H1 vs a1 b1 c1
    rw [List.append_nil]
    exact newF_sound (K := ⟨X.K, φ⟩) ((la _ _ _ _ q).trans hn) c1 b1 (Post.ext a1 h)
  | ex x M1 =>
    rw [q] at h
    refine sa φ ρ env M σ H _ e m ?_
    rw [q]
    exact h
  | st => rw [q] at h; exact h.elim
/-- three names at once -/
theorem ds_par3 (i j l : Nat) {x y z : Str} {px py pz pt : Pos} {kt k2 pt2} (hc : X.calm = true) (hN : X.N.Nodup) (ha : DA X W [a, b, c] fl)
    (hw : swappedStores [.Tuple [.Name x px, .Name y py, .Name z pz] kt pt] (.Tuple [a, b, c] k2 pt2) X.env = pure (some [x, y, z])) (h1 : X.N[i]? = some x := by rfl) (h2 : X.N[j]? = some y := by rfl) (h3 : X.N[l]? = some z := by rfl) (h4 : i ≠ j := by decide) (h5 : i ≠ l := by decide) (h6 : j ≠ l := by decide)
    (h7 : X.env.scope.names.lookup x = some .local := by rfl) (h8 : X.env.scope.names.lookup y = some .local := by rfl) (h9 : X.env.scope.names.lookup z = some .local := by rfl)
    (hs : swapsWithSole [.Tuple [.Name x px, .Name y py, .Name z pz] kt pt] (.Tuple [a, b, c] k2 pt2) pos.line X.env = pure false := by rfl) : DS X W (.Assign [.Tuple [.Name x px, .Name y py, .Name z pz] kt pt] (.Tuple [a, b, c] k2 pt2) pos) (sPar3 i j l fl) := by
  obtain ⟨ta, pa, la, sa⟩ := ha
  refine ⟨_, ps_par3 hc hN h1 h2 h3 h4 h5 h6 h7 h8 h9 pa hw hs, fun φ ρ env M σ H E e m h => ?_⟩
  refine sa φ ρ env M σ H _ e m (PostL.bindS e h fun ds M1 ρ1 H1 vs a1 b1 c1 q1 => ?_)
  split at q1
  · obtain ⟨v, w, u, rfl, r1, r2, r3⟩ := c1.three
    exact ⟨v, w, u, rfl, q1 _ _ _ .refl b1 ((((e.ext a1).set r1).set r2).set r3)⟩
  · exact q1.elim
end

/-! ### for .. in a tuple, of the program's own or an item's -/
theorem jw_itm {K : Kx} {ρ1 : List Addr} {H1 : Hp} {a : Addr} {ds : List D} {xs : List V} (h : H1 a = some (.tup xs)) (n : a ∉ ρ1) (r : RDs K ρ1 H1 ds xs) : JW K (Itt K.K a) ρ1 H1 cYes ds := by
  intro i ρ2 H2 M2 ex m c
  have s : SqT K.K H2 a xs := .inl (.inl (ex.keep _ _ h n))
  have r := r.ext ex
  refine ⟨fun d hd => ?_, fun hi => ⟨xs, s, by rw [← r.length, hi]; exact Nat.le_refl _⟩⟩
  obtain ⟨v, hv, rv⟩ := r.get hd
  refine ⟨⟨xs, v, s, hv⟩, fun x H' y => ?_⟩
  obtain ⟨rfl, y⟩ := y
  have := y xs s
  rw [hv] at this
  cases this
  exact ⟨.refl, m, rv⟩
/-- for .. in e: a list, a tuple -/
def iA (f : Ev) : EvI := fun env M => (f env M).bindI fun d M1 => match d with
  | .tup xs => .ok xs cYes M1
  | .itm xs => .ok xs cYes M1
  | d => match derefL M1 d with
    | some xs => .ok xs (chkL d xs) M1
    | none => .st
def wiA (K : PySem.W.Frag) (te : TE) : TI := fun σ H R => te σ H fun x H1 => ∃ a, x = .ref a ∧ (((∃ xs, SqL K H1 a xs) ∧ R (Itl K a) H1) ∨ ((∃ xs, SqT K H1 a xs) ∧ R (Itt K a) H1))
section
variable {X : Cx} {W : WX} {a tg : Expr} {fa : Ev} {te : TE}
theorem pi_any (he : PE X a te) : PI X tg a (wiA X.K te) := by
  refine ⟨fun pins s0 σ H R I h => thn (he.run pins s0 σ H _ I h) fun u s1 ⟨x, H1, J, rx, b, ex, q⟩ => ?_⟩
  subst ex
  cases rx
  rcases q with ⟨⟨xs, hx⟩, q⟩ | ⟨⟨xs, hx⟩, q⟩
  · obtain ⟨us, ru, p, _⟩ := J.list hx
    exact wpAny_pyIter_list p.isList (pi_one (tk := s1.toks) J _ (turn_list b _) ⟨_, Heap.get?_push_size _ rfl, rfl, rfl⟩ q)
  · obtain ⟨us, ru, p, _⟩ := J.tuple hx
    exact wpAny_pyIter_tuple (show s1.heap.IsTuple b us.toArray from p) (pi_one (tk := s1.toks) J _ (turn_tuple b _) ⟨_, Heap.get?_push_size _ rfl, rfl, rfl⟩ q)
theorem di_any (ha : DE X W a fa) : DI X W tg a (iA fa) := by
  obtain ⟨ta, pa, sa⟩ := ha
  refine ⟨_, pi_any pa, fun φ ρ env M σ H R e m h => ?_⟩
  refine sa φ ρ env M σ H _ e m (PostI.bind h fun d M1 ρ1 H1 v a1 b1 c1 h1 => ?_)
  have lst : ∀ xs, derefL M1 d = some xs → PostI ⟨X.K, φ⟩ W ρ1 σ H1 (.ok xs (chkL d xs) M1) R → ∃ a, v = V.ref a ∧ (((∃ xs, SqL X.K H1 a xs) ∧ R (Itl X.K a) H1) ∨ ((∃ xs, SqT X.K H1 a xs) ∧ R (Itt X.K a) H1)) := fun xs hx h2 => by
    obtain ⟨q, rfl, s, ck, st⟩ := derefL_stay b1 c1 hx
    exact ⟨q, rfl, .inl ⟨s, h2 _ _ _ .refl b1 ck fun K' hh => jw_list (K := ⟨X.K, K'⟩) (st K' hh)⟩⟩
  cases c1 with
  | tup hh rr => exact ⟨_, rfl, .inr ⟨⟨_, hh.sq⟩, h1 _ _ _ .refl b1 rfl fun K' hd => jw_tup (K := ⟨X.K, K'⟩) (hh.hide hd) (rr.hide hd)⟩⟩
  | itm hh nn rr => exact ⟨_, rfl, .inr ⟨⟨_, .inl (.inl hh)⟩, h1 _ _ _ .refl b1 rfl fun K' hd => jw_itm (K := ⟨X.K, K'⟩) hh nn.1 (rr.hide hd)⟩⟩
  | lst hh nn rr => exact lst _ rfl h1
  | fzl hh rr => exact lst _ rfl h1
  | @ref l q hq =>
    cases hx : derefL M1 (.ref l) with
    | none => simp only [hx] at h1; exact h1.elim
    | some xs => simp only [hx] at h1; exact lst _ hx h1
  | _ => exact h1.elim
end

/-! ### a def with a star parameter -/
def starF (n s : Nat) (c : Sx) : Fn := fun ds M => if n ≤ ds.length ∧ ds.length ≤ sizeLine then defn (n + 1) s c (ds.take n ++ [.itm (ds.drop n)]) M else .st
def spR (K : PySem.W.Frag) (F : Fn) : Sp := fun vs H Q E => ∃ φ ρ ds M, RDs ⟨K, φ⟩ ρ H ds vs ∧ MOk ⟨K, φ⟩ ρ M H ∧ PostF ⟨K, φ⟩ ρ H (F ds M) Q E
structure StrD (P : Program) (w : World) (K : PySem.W.Frag) (mg : Str → Option Value) (base : Heap) (k : Nat) (x : Str) (F : Fn) : Prop where
  mg_ : mg x = some (.ref (gadr K x))
  kp : PySem.W.keepIn K (.ref (gadr K x)) = true
  ok : FnR P w K mg base (L2.CX P w) k (gadr K x) (spR K F)
theorem RDs.split {K : Kx} {ρ : List Addr} {H : Hp} : ∀ (n : Nat) {ds : List D} {vs : List V}, RDs K ρ H ds vs → vs = vs.take n ++ vs.drop n ∧ RDs K ρ H (ds.take n) (vs.take n) ∧ RDs K ρ H (ds.drop n) (vs.drop n) := fun n ds vs r => ⟨(List.take_append_drop n vs).symm, r.take n, r.drop n⟩
section
variable {X : Cx} {W : WX} {pos p : Pos} {a : Expr} {es : List Expr} {fl : EvL} {x : Str} {k j : Nat} {F : Fn}
end
end DL

theorem L2.Room.units1 {k : Nat} {A : PySem.Around} (r : L2.Room k A) : A.units + 1 < PySem.cLine := by have := r.un; omega
namespace DL
open PySem L2 PyProof.Rows PySem.Spec

/-! ### a constant of the module: data that the heap holds -/
mutual
def cstB (K : PySem.W.Frag) : D → Value → Bool
  | .non, .none => true
  | .bl b, .bool c => b == c
  | .int i, .int k _ => decide (i = k)
  | .str x, .str z _ => decide (x = z)
  | .tup ds, .ref a => match K.lookup a with
    | some ⟨.type t, none, .seq its _, _⟩ => decide (t = "tuple") && (decide (its.size ≤ sizeLine) && cstsB K ds its.toList)
    | _ => false
  | _, _ => false
def cstsB (K : PySem.W.Frag) : List D → List Value → Bool
  | [], [] => true
  | d :: ds, v :: vs => cstB K d v && cstsB K ds vs
  | _, _ => false
end
mutual
theorem cstB_ok {K : PySem.W.Frag} : ∀ {d : D} {u : Value}, cstB K d u = true → ∃ v, RelV v u ∧ ∀ φ ρ H, RD ⟨K, φ⟩ ρ H d v
  | .non, u, h => by
    unfold cstB at h
    cases u <;> first | exact ⟨.non, rfl, fun _ _ _ => .non⟩ | cases h
  | .bl b, u, h => by
    unfold cstB at h
    cases u <;> first | exact ⟨.bl b, by rw [beq_iff_eq.mp h]; rfl, fun _ _ _ => .bl b⟩ | cases h
  | .int i, u, h => by
    unfold cstB at h
    cases u <;> first | exact ⟨.int i, ⟨_, by rw [of_decide_eq_true h]⟩, fun _ _ _ => .int i⟩ | cases h
  | .str x, u, h => by
    unfold cstB at h
    cases u <;> first | exact ⟨.str x, ⟨_, by rw [of_decide_eq_true h]⟩, fun _ _ _ => .str x⟩ | cases h
  | .tup ds, u, h => by
    unfold cstB at h
    cases u with
    | ref a =>
      simp only at h
      split at h
      · rename_i t its n sl q
        obtain ⟨h1, h2⟩ := Bool.and_eq_true_iff.mp h
        obtain ⟨h3, h4⟩ := Bool.and_eq_true_iff.mp h2
        obtain ⟨vs, rs, qs⟩ := cstsB_ok h4
        exact ⟨.ref a, rfl, fun φ ρ H => .tup (.inr ⟨_, its, n, q, congrArg Value.type (of_decide_eq_true h1), rfl, rfl, of_decide_eq_true h3, rs⟩) (qs φ ρ H)⟩
      · cases h
    | _ => cases h
  | .itm _, u, h => by unfold cstB at h; cases u <;> cases h
  | .lst _, u, h => by unfold cstB at h; cases u <;> cases h
  | .fzl _, u, h => by unfold cstB at h; cases u <;> cases h
  | .ref _, u, h => by unfold cstB at h; cases u <;> cases h
  | .glo _, u, h => by unfold cstB at h; cases u <;> cases h
  | .ty _, u, h => by unfold cstB at h; cases u <;> cases h
  | .inst _ _, u, h => by unfold cstB at h; cases u <;> cases h
  | .dcv _, u, h => by unfold cstB at h; cases u <;> cases h
theorem cstsB_ok {K : PySem.W.Frag} : ∀ {ds : List D} {us : List Value}, cstsB K ds us = true → ∃ vs, Vals vs us ∧ ∀ φ ρ H, RDs ⟨K, φ⟩ ρ H ds vs
  | [], [], _ => ⟨[], .nil, fun _ _ _ => .nil⟩
  | d :: ds, u :: us, h => by
    have h' := Bool.and_eq_true_iff.mp h
    obtain ⟨v, r, q⟩ := cstB_ok h'.1
    obtain ⟨vs, rs, qs⟩ := cstsB_ok h'.2
    exact ⟨v :: vs, .cons r rs, fun φ ρ H => .cons (q φ ρ H) (qs φ ρ H)⟩
  | [], _ :: _, h => by cases h
  | _ :: _, [], h => by cases h
end

/-! ### the head's facts: what the heap behind the module's top holds -/
/-- a def at an address that K tells -/
structure FdX where
  adr : PySem.W.Frag → Addr
  name : Str
  qual : Str
  st : Stmt
  dfl : List He.Dv := []
  kwd : List (Str × He.Dv) := []
  cl : Option (Str × Str) := none
/-- the closure that super() needs: the class; the code's file -/
def clB (K : PySem.W.Frag) (q : Str × Str) (g : FuncData) : Bool := (match g.closure with
  | [(n, cc)] => decide (n = "__class__") && (match K.lookup cc with
    | some ⟨_, _, .cell (some (.ref a)), _⟩ => decide (a = gadr K q.1)
    | _ => false)
  | _ => false) && (match g.code with
  | .ref ad => (match K.lookup ad with
    | some ⟨_, _, .fields vs, _⟩ => (match (vs[2]? : Option Value) with
      | some (Value.str s _) => decide (s = q.2)
      | _ => false)
    | _ => false)
  | _ => false)
def FdX.dv (d : FdX) : He.DefD := ⟨("", none), d.name, d.qual, defArgs d.st, defBody d.st, defScope d.st, d.dfl, d.kwd⟩
def fnX (K : PySem.W.Frag) (d : FdX) : He.FnW := match K.lookup (d.adr K) with
  | some ⟨_, _, .func g, _⟩ => some (g.name, g.qualname, g.params, g.body, g.scope, g.globals, (match d.cl with
    | none => g.closure
    | some _ => []), g.builtins)
  | _ => none
def FdX.ok (K : PySem.W.Frag) (d : FdX) : Bool := match K.lookup (d.adr K) with
  | some ⟨_, _, .func g, _⟩ => PySem.W.keepIn K (.ref (d.adr K)) && (PySem.W.codeIn K g.code d.qual && (He.dflB K g.defaults (d.dv.dvs K) && (He.kwdB K g.kwdefaults (d.dv.kws K) && (match d.cl with
    | none => true
    | some q => clB K q g))))
  | _ => false
theorem FdX.funD {K : PySem.W.Frag} {d : FdX} (hn : d.cl = none) (e : fnX K d = d.dv.val) (c : d.ok K = true) : ∃ g, FunD K d.name d.qual (defArgs d.st) (defBody d.st) (defScope d.st) (d.dv.dvs K) (d.dv.kws K) (d.adr K) g := by
  unfold FdX.ok at c
  unfold fnX at e
  rw [hn] at c e
  split at c
  · rename_i oc od g osl q
    rw [q] at e
    obtain ⟨n1, n2, n3, n4, n5, n6, n7, n8, n9, n10, n11, n12, n13, n14, n15⟩ := g
    obtain ⟨k0, c⟩ := Bool.and_eq_true_iff.mp c
    obtain ⟨k1, c⟩ := Bool.and_eq_true_iff.mp c
    obtain ⟨k2, c⟩ := Bool.and_eq_true_iff.mp c
    obtain ⟨k3, _⟩ := Bool.and_eq_true_iff.mp c
    have e2 : (some (n1, n2, n3, n4, n5, n6, n7, n15) : He.FnW) = some (d.name, d.qual, defArgs d.st, .stmts (defBody d.st), defScope d.st, mainGlobals, [], builtinsNs) := e
    injection e2 with e2
    injection e2 with a1 e2; injection e2 with a2 e2; injection e2 with a3 e2; injection e2 with a4 e2; injection e2 with a5 e2; injection e2 with a6 e2; injection e2 with a7 a8
    cases a1; cases a2; cases a3; cases a4; cases a5; cases a6; cases a7; cases a8
    exact ⟨_, ⟨oc, od, n8, n9, n10, n11, n12, n13, n14, osl, rfl, q, k1, He.dflB_ok k2, He.kwdB_ok k3⟩, k0⟩
  · cases c
/-- an __init__ with super() -/
theorem FdX.excD {K : PySem.W.Frag} {d : FdX} {q : Str × Str} (hn : d.cl = some q) (hd : d.dfl = []) (e : fnX K d = d.dv.val) (c : d.ok K = true) :
    ∃ (oc kV doc pm ct : Value) (od an : Option Addr) (cda cc : Addr) (osl : Array (Option Value)), K.lookup (d.adr K) = some ⟨oc, od, .func (PySem.W.ksFn d.name d.qual (defArgs d.st) (defBody d.st) (defScope d.st) .none kV doc pm an (.ref cda) ct cc), osl⟩ ∧ PySem.W.codeIn K (.ref cda) d.qual = true ∧
      (∃ (ccl : Value) (cdd : Option Addr) (ccs : Array (Option Value)) (vs : Array Value) (tf : Tok), K.lookup cda = some ⟨ccl, cdd, .fields vs, ccs⟩ ∧ vs[2]? = some (.str q.2 tf)) ∧
      ∃ (cl : Value) (cld : Option Addr) (csl : Array (Option Value)), K.lookup cc = some ⟨cl, cld, .cell (some (.ref (gadr K q.1))), csl⟩ := by
  unfold FdX.ok at c
  unfold fnX at e
  rw [hn] at c e
  split at c
  · rename_i oc od g osl hq
    rw [hq] at e
    obtain ⟨n1, n2, n3, n4, n5, n6, n7, n8, n9, n10, n11, n12, n13, n14, n15⟩ := g
    obtain ⟨k0, c⟩ := Bool.and_eq_true_iff.mp c
    obtain ⟨k1, c⟩ := Bool.and_eq_true_iff.mp c
    obtain ⟨k2, c⟩ := Bool.and_eq_true_iff.mp c
    obtain ⟨k3, c⟩ := Bool.and_eq_true_iff.mp c
    obtain ⟨c1, c2⟩ := Bool.and_eq_true_iff.mp c
    have e2 : (some (n1, n2, n3, n4, n5, n6, [], n15) : He.FnW) = some (d.name, d.qual, defArgs d.st, .stmts (defBody d.st), defScope d.st, mainGlobals, [], builtinsNs) := e
    injection e2 with e2
    injection e2 with a1 e2; injection e2 with a2 e2; injection e2 with a3 e2; injection e2 with a4 e2; injection e2 with a5 e2; injection e2 with a6 e2; injection e2 with a7 a8
    cases a1; cases a2; cases a3; cases a4; cases a5; cases a6; cases a8
    have hv : n8 = .none := by
      have e0 : d.dv.dvs K = [] := by
        show List.map _ d.dfl = []
        rw [hd]; rfl
      rw [e0] at k2
      dsimp only at k2
      cases n8 <;> first | rfl | cases k2
    subst hv
    dsimp only at c1 c2 k1
    split at c1
    · rename_i n cc
      obtain ⟨c3, c4⟩ := Bool.and_eq_true_iff.mp c1
      have hnm := of_decide_eq_true c3
      subst hnm
      split at c4
      · rename_i u1 u2 a u4 hcell
        have ha := of_decide_eq_true c4
        subst ha
        split at c2
        · rename_i cda
          split at c2
          · rename_i v1 v2 vs v4 hcode
            split at c2
            · rename_i sf tf hvs
              have hf := of_decide_eq_true c2
              subst hf
              exact ⟨oc, _, _, _, _, od, _, _, _, osl, hq, k1, ⟨_, _, _, _, _, ‹_›, ‹_›⟩, _, _, _, ‹_›⟩
            · cases c2
          · cases c2
        · cases c2
      · cases c4
    · cases c1
  · cases c
abbrev Ft := PySem.W.Frag → Bool
def obsF (ft : List Ft) (fn : List FdX) (K : PySem.W.Frag) : He.AlD := ((ft.all fun f => f K) && fn.all fun d => d.ok K, fn.map fun d => fnX K d)
def valF (fn : List FdX) : He.AlD := (true, fn.map fun d => d.dv.val)
def Says (ft : List Ft) (fn : List FdX) (K : PySem.W.Frag) : Prop := obsF ft fn K = valF fn
def obsFG (n : Nat) (ft : List Ft) (fn : List FdX) (g : Addr → Option Obj) : He.AlD := obsF ft fn (He.frG g (He.asD g n ++ [cStatics]))
def hookF (n : Nat) (ft : List Ft) (fn : List FdX) : PySem.W.Hook where
  α := He.AlD
  obs := fun s => obsFG n ft fn s.heap.get?
  val := fun _ => valF fn
  says := fun _ h => ∃ K : PySem.W.Frag, K.In h ∧ Says ft fn K
  of := fun _ s e => ⟨He.frG s.heap.get? (He.asD s.heap.get? n ++ [cStatics]), He.frG_in, e⟩
  keeps := fun _ _ _ y k => y.elim fun K z => ⟨K, PySem.W.Frag.In.keeps z.1 k, z.2⟩
theorem obsFG_eq {n : Nat} {ft : List Ft} {fn : List FdX} {g : Addr → Option Obj} {s : Shared} (h : ∀ a, g a = s.heap.get? a) : obsFG n ft fn g = (hookF n ft fn).obs s := by
  have e : g = s.heap.get? := funext fun a => h a
  subst e
  rfl
section
variable {ft : List Ft} {fn : List FdX} {K : PySem.W.Frag} {mg : Str → Option Value} {h : Heap}
theorem Says.fact (c : Says ft fn K) (i : Nat) {f : Ft} (e : ft[i]? = some f) : f K = true := by
  have z : ((ft.all fun f => f K) && fn.all fun d => d.ok K) = true := congrArg Prod.fst c
  exact List.all_eq_true.mp (Bool.and_eq_true_iff.mp z).1 f (List.mem_of_getElem? e)
theorem Says.def_ (c : Says ft fn K) (i : Nat) {d : FdX} (e : fn[i]? = some d) (hn : d.cl = none := by rfl) : ∃ g, FunD K d.name d.qual (defArgs d.st) (defBody d.st) (defScope d.st) (d.dv.dvs K) (d.dv.kws K) (d.adr K) g := by
  have z : ((ft.all fun f => f K) && fn.all fun d => d.ok K) = true := congrArg Prod.fst c
  have y : (fn.map fun d => fnX K d) = fn.map fun d => d.dv.val := congrArg Prod.snd c
  refine FdX.funD hn ?_ (List.all_eq_true.mp (Bool.and_eq_true_iff.mp z).2 d (List.mem_of_getElem? e))
  have y1 := congrArg (fun l => l[i]?) y
  simp only [List.getElem?_map, e, Option.map_some] at y1
  exact Option.some.inj y1
theorem Says.exc_ (c : Says ft fn K) (i : Nat) {d : FdX} (e : fn[i]? = some d) {q : Str × Str} (hn : d.cl = some q) : fnX K d = d.dv.val ∧ d.ok K = true := by
  have z : ((ft.all fun f => f K) && fn.all fun d => d.ok K) = true := congrArg Prod.fst c
  have y : (fn.map fun d => fnX K d) = fn.map fun d => d.dv.val := congrArg Prod.snd c
  refine ⟨?_, List.all_eq_true.mp (Bool.and_eq_true_iff.mp z).2 d (List.mem_of_getElem? e)⟩
  have y1 := congrArg (fun l => l[i]?) y
  simp only [List.getElem?_map, e, Option.map_some] at y1
  exact Option.some.inj y1
/-! the facts themselves -/
def tGlo (x : Str) : Ft := fun K => decide (PySem.W.nsIn K mainGlobals x = some (some (.ref (gadr K x))))
def tFree (x : Str) : Ft := fun K => decide (PySem.W.nsIn K mainGlobals x = some none)
def tCst (x : Str) (d : D) : Ft := fun K => match PySem.W.nsIn K mainGlobals x with
  | some (some u) => cstB K d u
  | _ => false
def tCls (x : Str) : Ft := fun K => PySem.W.plainGet K (gadr K x) Str.empty && (PySem.W.hasDictIn K (gadr K x) && (PySem.W.plainOver K (gadr K x) && decide (PySem.W.findIn K (.ref (gadr K x)) "__setattr__" = some (some (.builtin "object.__setattr__")))))
def tNoat (x f : Str) : Ft := fun K => decide (PySem.W.findIn K (.ref (gadr K x)) f = some none)
/-- what the class has by a name -/
def cadr (K : PySem.W.Frag) (x m : Str) : Addr := match PySem.W.findIn K (.ref (gadr K x)) m with
  | some (some (.ref a)) => a
  | _ => 0
def tMeth (x m : Str) : Ft := fun K => decide (PySem.W.findIn K (.ref (gadr K x)) m = some (some (.ref (cadr K x m)))) && (PySem.W.isFn K (.ref (cadr K x m)) && PySem.W.keepIn K (.ref (cadr K x m)))
def tMk (x : Str) : Ft := fun K => PySem.W.makesIn K (gadr K x) && (decide (PySem.W.findIn K (.ref (gadr K x)) "__init__" = some (some (.ref (cadr K x "__init__")))) && (PySem.W.isFn K (.ref (cadr K x "__init__")) && PySem.W.keepIn K (.ref (gadr K x))))
/-- a property's getter -/
def padr (K : PySem.W.Frag) (x m : Str) : Addr := match PySem.W.recIn K (cadr K x m) "property" with
  | some (.ref g :: _) => g
  | _ => 0
def tProp (x m : Str) : Ft := fun K => decide (PySem.W.findIn K (.ref (gadr K x)) m = some (some (.ref (cadr K x m)))) && (decide (PySem.W.specialIn K (.ref (cadr K x m)) "__get__" = some (some (.builtin "property.__get__"))) && (decide (PySem.W.takesIn K (.ref (cadr K x m)) = some true) &&
  (match PySem.W.recIn K (cadr K x m) "property" with
  | some (.ref _ :: _) => true
  | _ => false)))
theorem tGlo_ok (X : K.In h) (G : h.Ns mainGlobals mg) {x : Str} (c : tGlo x K = true) : mg x = some (.ref (gadr K x)) := PySem.W.mg_of X G (of_decide_eq_true c)
theorem tFree_ok (X : K.In h) (G : h.Ns mainGlobals mg) {x : Str} (c : tFree x K = true) : mg x = none := PySem.W.mg_none_of X G (of_decide_eq_true c)
theorem tCst_ok (X : K.In h) (G : h.Ns mainGlobals mg) {x : Str} {d : D} (c : tCst x d K = true) : ∃ u v, mg x = some u ∧ RelV v u ∧ ∀ φ ρ H, RD ⟨K, φ⟩ ρ H d v := by
  unfold tCst at c
  split at c
  · rename_i u q
    obtain ⟨v, r, z⟩ := cstB_ok c
    exact ⟨u, v, PySem.W.mg_of X G q, r, z⟩
  · cases c
theorem tCls_ok {x : Str} (c : tCls x K = true) : Cls K (gadr K x) := by
  obtain ⟨a, c⟩ := Bool.and_eq_true_iff.mp c
  obtain ⟨b, c⟩ := Bool.and_eq_true_iff.mp c
  obtain ⟨d, c⟩ := Bool.and_eq_true_iff.mp c
  exact ⟨a, b, d, of_decide_eq_true c⟩
theorem tNoat_ok {x f : Str} (c : tNoat x f K = true) : NoAttr K (gadr K x) f := of_decide_eq_true (p := PySem.W.findIn K (.ref (gadr K x)) f = some none) c
theorem tMeth_ok {x m : Str} (c : tMeth x m K = true) : Meth K (gadr K x) m (cadr K x m) := by
  obtain ⟨a, c⟩ := Bool.and_eq_true_iff.mp c
  obtain ⟨b, c⟩ := Bool.and_eq_true_iff.mp c
  exact ⟨of_decide_eq_true a, b, c⟩
theorem tMk_ok {x : Str} (c : tMk x K = true) : Mk K (gadr K x) (cadr K x "__init__") := by
  obtain ⟨a, c⟩ := Bool.and_eq_true_iff.mp c
  obtain ⟨b, c⟩ := Bool.and_eq_true_iff.mp c
  obtain ⟨d, c⟩ := Bool.and_eq_true_iff.mp c
  exact ⟨a, of_decide_eq_true b, d, c⟩
theorem tProp_ok {x m : Str} (c : tProp x m K = true) : PropOf K (gadr K x) m (cadr K x m) (padr K x m) := by
  obtain ⟨a, c⟩ := Bool.and_eq_true_iff.mp c
  obtain ⟨b, c⟩ := Bool.and_eq_true_iff.mp c
  obtain ⟨d, c⟩ := Bool.and_eq_true_iff.mp c
  refine ⟨of_decide_eq_true a, of_decide_eq_true b, of_decide_eq_true d, ?_⟩
  unfold padr
  split at c
  · rename_i g r q
    rw [q]
    exact ⟨r, rfl⟩
  · cases c
end
end DL

namespace DL
open PySem L2 PyProof.Rows

/-! ### match: cases [x, y, ..] if test, and _ -/
abbrev Mc := D → Sx
def PM (X : Cx) (cs : List MatchCase) (t : V → TS) : Prop := ∀ (pins : List (Addr × Obj)) (s : Shared) (σ : L2.St) (H : Hp) (D : Ends) (v : V) (u : Value) (first : Bool), Inv X pins σ H s → RelV v u → t v D σ H → wpAny (model X.prog X.w) X.A (matchCases cs X.env u first) (SP X pins D) X.xe s
def DM (X : Cx) (W : WX) (cs : List MatchCase) (f : Mc) : Prop := ∃ t, PM X cs t ∧ ∀ φ ρ env M σ H d v E, RE ⟨X.K, φ⟩ ρ H env σ → MOk ⟨X.K, φ⟩ ρ M H → RD ⟨X.K, φ⟩ ρ H d v → PostS ⟨X.K, φ⟩ W ρ H (f d env M) E → t v E σ H
/-- a value's items, where it counts as a sequence -/
def seqM (M : Mem) : D → Option (Option (List D))
  | .tup xs => some (some xs)
  | .itm xs => some (some xs)
  | .lst xs => some (some xs)
  | .fzl xs => some (some xs)
  | .ref l => match M[l]? with
    | some (.lst xs) => some (some xs)
    | some (.dic []) => some none
    | _ => none
  | .dcv _ => some none
  | .non => some none
  | .bl _ => some none
  | .int _ => some none
  | .str _ => some none
  | _ => none
def setE (env : Env) : List Nat → List D → Env
  | i :: is, d :: ds => setE (env.set i (some d)) is ds
  | _, _ => env
def sMatch (fa : Ev) (f : Mc) : Sx := fun env M => (fa env M).bindS env fun d M1 => f d env M1
def mEnd : Mc := fun _ env M => .nx env M
def mAny (body : Sx) : Mc := fun _ env M => body env M
def mSeq (is : List Nat) (g : Option Ev) (body : Sx) (rest : Mc) : Mc := fun d env M => match seqM M d with
  | some (some xs) => if xs.length = is.length then (match g with
    | none => body (setE env is xs) M
    | some g => (g (setE env is xs) M).bindS (setE env is xs) fun b M1 => match b with
      | .bl true => body (setE env is xs) M1
      | .bl false => rest d (setE env is xs) M1
      | _ => .st) else rest d env M
  | some none => rest d env M
  | none => .st

section
variable {X : Cx} {W : WX} {pins : List (Addr × Obj)} {σ : L2.St} {H : Hp} {s : Shared} {E : Value → Shared → Prop}
inductive CapS (X : Cx) : List Pattern → List Nat → Prop
  | nil : CapS X [] []
  | cons {x : Str} {pos : Pos} {ps : List Pattern} {is : List Nat} (i : Nat) (hi : X.N[i]? = some x) (hx : Loc X.env.scope x) (hf : X.fn x = true ∨ X.env.scope.names.lookup x = some .local) (t : CapS X ps is) : CapS X (.MatchAs none (some x) pos :: ps) (i :: is)
def capB : List Pattern → List Value → List (Str × Value)
  | .MatchAs none (some x) _ :: ps, u :: us => (x, u) :: capB ps us
  | _, _ => []
def setV (σ : L2.St) : List Nat → List V → L2.St
  | i :: is, v :: vs => setV (σ.set i (some v)) is vs
  | _, _ => σ
theorem CapS.len {ps : List Pattern} {is : List Nat} (h : CapS X ps is) : ps.length = is.length := by
  induction h with
  | nil => rfl
  | cons i _ _ _ _ ih => simp [ih]
theorem CapS.nostar {ps : List Pattern} {is : List Nat} (h : CapS X ps is) : ps.findIdx? (·.isStar) = none := by
  induction h with
  | nil => rfl
  | cons i _ _ _ _ ih => rw [List.findIdx?_cons, ih]; rfl
theorem CapS.nowild {ps : List Pattern} {is : List Nat} (h : CapS X ps is) (ne : is ≠ []) : (ps.all fun p => p.isWildcard || (p.isStar && p.names.isEmpty)) = false := by
  cases h with
  | nil => exact absurd rfl ne
  | cons i _ _ _ _ => rfl
theorem each_caps {ps : List Pattern} {is : List Nat} (h : CapS X ps is) : ∀ {us : List Value} {Q : Option (List (Str × Value)) → Shared → Prop}, us.length = ps.length → Q (some (capB ps us)) s → wpAny (model X.prog X.w) X.A (matchEach ps X.env us) Q E s := by
  induction h with
  | nil =>
    intro us Q hl q
    cases us with
    | nil => exact wpAny_matchEach_nil q
    | cons u us => simp at hl
  | @cons x pos ps is i hi hx hf t ih =>
    intro us Q hl q
    cases us with
    | nil => simp at hl
    | cons u us =>
      refine wpAny_matchEach_cons (wpAny_matchPattern_Capture ?_)
      exact ih (by simpa using hl) q
theorem assign_caps {ps : List Pattern} {is : List Nat} (h : CapS X ps is) (hN : X.N.Nodup) : ∀ {us : List Value} {vs : List V} {σ : L2.St} {s : Shared} {Q : Unit → Shared → Prop}, Inv X pins σ H s → Vals vs us → us.length = ps.length → (∀ s', Inv X pins (setV σ is vs) H s' → Q () s') →
    wpAny (model X.prog X.w) X.A (assignInOrder ((capB ps us).map fun (n, _) => bindName X.env n) ((capB ps us).map (·.2))) Q E s := by
  induction h with
  | nil =>
    intro us vs σ s Q I r hl q
    cases us with
    | nil => exact wpAny_assignInOrder_none (q _ (by cases r; exact I))
    | cons u us => simp at hl
  | @cons x pos ps is i hi hx hf t ih =>
    intro us vs σ s Q I r hl q
    cases us with
    | nil => simp at hl
    | cons u us =>
      cases r with
      | cons r rr =>
        refine wpAny_assignInOrder_more (wpAny_bindName (store_ok I hN hi hx r (fun s' I' => ?_) hf))
        exact ih I' rr (by simpa using hl) q
theorem setE_re {K : Kx} {ρ : List Addr} {H : Hp} (is : List Nat) : ∀ {ds : List D} {vs : List V} {env : Env} {σ : L2.St}, RE K ρ H env σ → RDs K ρ H ds vs → RE K ρ H (setE env is ds) (setV σ is vs) := by
  induction is with
  | nil => intro ds vs env σ e r; unfold setE setV; exact e
  | cons i is ih =>
    intro ds vs env σ e r
    cases r with
    | nil => unfold setE setV; exact e
    | cons r rr => exact ih (RE.set e r) rr
theorem seqM_ok {K : Kx} {ρ : List Addr} {M : Mem} {d : D} {v : V} {xs : List D} (m : MOk K ρ M H) (r : RD K ρ H d v) (e : seqM M d = some (some xs)) :
    ∃ a ws, v = .ref a ∧ (SqT K.K H a ws ∨ SqL K.K H a ws) ∧ RDs K ρ H xs ws := by
  cases r with
  | tup h r => cases e; exact ⟨_, _, rfl, .inl h.sq, r⟩
  | itm h n r => cases e; exact ⟨_, _, rfl, .inl (.inl (.inl h)), r⟩
  | lst h n r => cases e; exact ⟨_, _, rfl, .inr (.inl (.inl h)), r⟩
  | fzl h r => cases e; exact ⟨_, _, rfl, .inr h.sq, r⟩
  | @ref l a h =>
    have e' : (match M[l]? with | some (.lst xs) => some (some xs) | some (.dic []) => some none | _ => none) = some (some xs) := e
    split at e'
    · rename_i ys hx
      cases e'
      obtain ⟨u, hu, ws, rfl, rr⟩ := m.at_ _ _ _ hx h
      exact ⟨_, _, rfl, .inr (.inl (.inl hu)), rr⟩
    · cases e'
    · cases e'
  | _ => cases e
theorem dK_ty {P : Program} {w : World} {h : Heap} {a : Addr} {kvs : List (L2.Key × V)} (o : ObjOk P w H h a (.dK kvs)) : ∃ ob, h.get? a = some ob ∧ ob.cls = .type "dict" := by
  obtain ⟨_, _, vs, _, ob, es, ep, e, c, _⟩ := o
  exact ⟨ob, e, c.1⟩
theorem seqM_no {K : Kx} {ρ : List Addr} {M : Mem} {d : D} {v : V} {u : Value} (hK : X.K = K.K) (I : Inv X pins σ H s) (m : MOk K ρ M H) (r : RD K ρ H d v) (rv : RelV v u) (e : seqM M d = some none) {A : Around} {Q : Bool → Shared → Prop} (q : Q false s) :
    wpAny (model X.prog X.w) A (collectionFlag true u) Q E s := by
  cases r with
  | non => cases rv; exact wpAny_collectionFlag (T := "NoneType") rfl flag_seq_None q
  | bl b => cases rv; exact wpAny_collectionFlag (T := "bool") rfl flag_seq_bool q
  | int i => obtain ⟨t, rfl⟩ := rv; exact wpAny_collectionFlag (T := "int") rfl flag_seq_int q
  | str x => obtain ⟨t, rfl⟩ := rv; exact wpAny_collectionFlag (T := "str") rfl flag_seq_str q
  | @ref l a h =>
    have e' : (match M[l]? with | some (.lst xs) => some (some xs) | some (.dic []) => some none | _ => none) = some none := e
    split at e'
    · cases e'
    · rename_i hx
      obtain ⟨u', hu, ws, rfl, rr⟩ := m.at_ _ _ _ hx h
      cases rv
      obtain ⟨ob, ho, hc⟩ := dK_ty (I.hok _ _ hu)
      exact wpAny_collectionFlag (T := "dict") ⟨ob, ho, hc⟩ flag_seq_dict q
    · cases e'
  | dcv hu n r =>
    cases rv
    obtain ⟨ob, ho, hc⟩ := dK_ty (I.hok _ _ hu)
    exact wpAny_collectionFlag (T := "dict") ⟨ob, ho, hc⟩ flag_seq_dict q
  | _ => cases e
end
section
variable {X : Cx} {W : WX} {pos : Pos} {a : Expr} {fa g : Ev} {cs : List MatchCase} {f rest : Mc} {fb : Sx} {body : List Stmt} {ps : List Pattern} {is : List Nat} {ge : Expr}
theorem ds_match (ha : DE X W a fa) (h : DM X W cs f) : DS X W (.Match a cs pos) (sMatch fa f) := by
  obtain ⟨ta, pa, sa⟩ := ha
  obtain ⟨tm, pm, sm⟩ := h
  refine ⟨fun D σ H => ta σ H fun v H1 => tm v D σ H1, ⟨fun pins s σ H D I h => ?_⟩, fun φ ρ env M σ H E e m h => ?_⟩
  · refine wpAny_Match (thn (pa.run pins s σ H _ I h) fun u s1 ⟨v, H1, I1, r1, q1⟩ => ?_)
    exact pm pins s1 σ H1 D v u true I1 r1 q1
  · refine sa φ ρ env M σ H _ e m (Post.bindS e h fun d M1 ρ1 H1 v a1 b1 c1 h1 => ?_)
    exact sm φ ρ1 env M1 σ H1 d v E (e.ext a1) b1 c1 h1
theorem dm_nil : DM X W [] mEnd := ⟨fun _ D σ H => D.nx σ H, fun pins s σ H D v u first I r h => wpAny_matchCases_nil ⟨σ, H, I, h⟩, fun φ ρ env M σ H d v E e m r h => h _ _ _ .refl m e⟩
theorem dm_any {p : Pos} {rs : List MatchCase} (hb : DB X W body fb) : DM X W (⟨.MatchAs none none p, none, body⟩ :: rs) (mAny fb) := by
  obtain ⟨tb, pb, sb⟩ := hb
  refine ⟨fun _ D σ H => tb D σ H, fun pins s σ H D v u first I r h => ?_, fun φ ρ env M σ H d v E e m r h => sb φ ρ env M σ H E e m h⟩
  refine wpAny_matchCases_cons (wpAny_matchPattern_Capture ?_)
  exact wpAny_assignInOrder_none (pb.run pins s σ H D I h)
/-- how a sequence pattern is met -/
theorem seq_hit {X : Cx} {pins : List (Addr × Obj)} {σ : L2.St} {H : Hp} {s : Shared} {E : Value → Shared → Prop} {ps : List Pattern} {is : List Nat} {pos : Pos} {a : Addr} {ws : List V} {Q : Option (List (Str × Value)) → Shared → Prop} (hc : X.calm = true) (C : CapS X ps is) (ne : is ≠ []) (I : Inv X pins σ H s) (h : SqT X.K H a ws ∨ SqL X.K H a ws)
    (hit : ws.length = is.length → ∀ us s', Inv X pins σ H s' → Vals ws us → Q (some (capB ps us)) s') (miss : ws.length ≠ is.length → ∀ s', Inv X pins σ H s' → Q none s') : wpAny (model X.prog X.w) X.A (matchPattern (.MatchSequence ps pos) X.env (.ref a)) Q E s := by
  have hl := C.len
  rcases h with h | h
  · obtain ⟨its, rv, ht, hz⟩ := I.tuple h
    have hw := rv.length
    have hsz : ((its.toArray.size : Nat) : Int) < 2 ^ 63 := by
      rw [sizeLine_eq] at hz
      simp
      omega
    by_cases e : ws.length = is.length
    · have e2 : its.toArray.size = ps.length := by simp; omega
      refine matchSeq_tuple_hit ht hsz e2 ?_ C.nostar (C.nowild ne)
      rw [← e2]
      refine unpackItems_tuple (I.ok.hd hc) ht fun h' he => ?_
      have I1 : Inv X pins σ H { s with heap := h', toks := s.toks + 1 + 1 } := I.kept (t' := s.toks + 1 + 1) fun b o q => he b o (Nat.ne_of_lt (Heap.lt_size q)) q
      exact each_caps C (by simp; omega) (hit e _ _ I1 (by simpa using rv))
    · exact matchSeq_tuple_miss ht hsz (by simp; omega) (miss e _ (I.tok _)) C.nostar (C.nowild ne)
  · obtain ⟨its, rv, ht, hz⟩ := I.list h
    have hw := rv.length
    have hsz : ((its.toArray.size : Nat) : Int) < 2 ^ 63 := by
      rw [sizeLine_eq] at hz
      simp
      omega
    by_cases e : ws.length = is.length
    · have e2 : its.toArray.size = ps.length := by simp; omega
      refine matchSeq_list_hit ht.isList hsz e2 ?_ C.nostar (C.nowild ne)
      rw [← e2]
      refine PySem.W.kun_itemsOf (I.ok.hd hc) ht.isList fun h' he => ?_
      have I1 : Inv X pins σ H { s with heap := h', toks := s.toks + 1 + 1 } := I.kept (t' := s.toks + 1 + 1) fun b o q => he b o (Nat.ne_of_lt (Heap.lt_size q)) q
      exact each_caps C (by simp; omega) (hit e _ _ I1 (by simpa using rv))
    · exact matchSeq_list_miss ht.isList hsz (by simp; omega) (miss e _ (I.tok _)) C.nostar (C.nowild ne)
theorem dm_seq (hc : X.calm = true) (hN : X.N.Nodup) (C : CapS X ps is) (ne : is ≠ []) (hb : DB X W body fb) (hr : DM X W cs rest) : DM X W (⟨.MatchSequence ps pos, none, body⟩ :: cs) (mSeq is none fb rest) := by
  obtain ⟨tb, pb, sb⟩ := hb
  obtain ⟨tr, pr, sr⟩ := hr
  refine ⟨fun v D σ H => ∃ φ ρ env M d, RE ⟨X.K, φ⟩ ρ H env σ ∧ MOk ⟨X.K, φ⟩ ρ M H ∧ RD ⟨X.K, φ⟩ ρ H d v ∧ PostS ⟨X.K, φ⟩ W ρ H (mSeq is none fb rest d env M) D, fun pins s σ H D v u first I r h => ?_, fun φ ρ env M σ H d v E e m r h => ⟨φ, ρ, env, M, d, e, m, r, h⟩⟩
  obtain ⟨φ, ρ, env, M, d, e, m, rd, h⟩ := h
  unfold mSeq at h
  refine wpAny_matchCases_cons ?_
  split at h
  · rename_i xs hx
    obtain ⟨a, ws, rfl, hs, rw'⟩ := seqM_ok m rd hx
    cases r
    have hl := rw'.length
    refine seq_hit hc C ne I hs (fun el us s' I' rv => ?_) (fun el s' I' => ?_)
    · rw [if_pos (by omega)] at h
      refine assign_caps C hN I' rv (by rw [← rv.length, el, C.len]) fun s2 I2 => ?_
      exact pb.run pins s2 _ H D I2 (sb φ ρ _ M _ H D (setE_re is e rw') m h)
    · rw [if_neg (by omega)] at h
      exact pr pins s' σ H D (.ref a) _ false I' (show RelV (.ref a) (Value.ref a) from rfl) (sr φ ρ env M σ H d _ D e m rd h)
  · rename_i hx
    refine wpAny_matchPattern_Sequence ?_ C.nostar (C.nowild ne)
    refine seqM_no (K := ⟨X.K, φ⟩) rfl I m rd r hx ?_
    (simp only [Bool.false_eq_true, if_false])
    exact pr pins s σ H D _ _ false I r (sr φ ρ env M σ H d _ D e m rd h)
  · exact h.elim
theorem dm_seqIf (hc : X.calm = true) (hN : X.N.Nodup) (C : CapS X ps is) (ne : is ≠ []) (hg : DT X W ge g) (hb : DB X W body fb) (hr : DM X W cs rest) : DM X W (⟨.MatchSequence ps pos, some ge, body⟩ :: cs) (mSeq is (some g) fb rest) := by
  obtain ⟨tb, pb, sb⟩ := hb
  obtain ⟨tr, pr, sr⟩ := hr
  obtain ⟨tg, pg, sg⟩ := hg
  refine ⟨fun v D σ H => ∃ φ ρ env M d, RE ⟨X.K, φ⟩ ρ H env σ ∧ MOk ⟨X.K, φ⟩ ρ M H ∧ RD ⟨X.K, φ⟩ ρ H d v ∧ PostS ⟨X.K, φ⟩ W ρ H (mSeq is (some g) fb rest d env M) D, fun pins s σ H D v u first I r h => ?_, fun φ ρ env M σ H d v E e m r h => ⟨φ, ρ, env, M, d, e, m, r, h⟩⟩
  obtain ⟨φ, ρ, env, M, d, e, m, rd, h⟩ := h
  unfold mSeq at h
  refine wpAny_matchCases_cons ?_
  split at h
  · rename_i xs hx
    obtain ⟨a, ws, rfl, hs, rw'⟩ := seqM_ok m rd hx
    cases r
    have hl := rw'.length
    refine seq_hit hc C ne I hs (fun el us s' I' rv => ?_) (fun el s' I' => ?_)
    · rw [if_pos (by omega)] at h
      refine assign_caps C hN I' rv (by rw [← rv.length, el, C.len]) fun s2 I2 => ?_
      have e2 := setE_re is e rw'
      have h : PostS ⟨X.K, φ⟩ W ρ H ((g (setE env is xs) M).bindS (setE env is xs) fun b M1 => match b with
        | .bl true => fb (setE env is xs) M1
        | .bl false => rest d (setE env is xs) M1
        | _ => .st) D := h
      refine thn (pg.run pins s2 _ H (fun ok H3 => ∃ ρ1 M1, RE ⟨X.K, φ⟩ ρ1 H3 (setE env is xs) (setV σ is ws) ∧ RE ⟨X.K, φ⟩ ρ1 H3 env σ ∧ MOk ⟨X.K, φ⟩ ρ1 M1 H3 ∧ RD ⟨X.K, φ⟩ ρ1 H3 d (.ref a) ∧ PostS ⟨X.K, φ⟩ W ρ1 H3 (if ok then fb (setE env is xs) M1 else rest d (setE env is xs) M1) D) I2
        (sg φ ρ _ M _ H _ e2 m (PostT.bindS e2 h (fun d M hd => by cases d <;> first | rfl | exact absurd rfl (hd _)) fun b M1 ρ1 H1 a1 b1 h1 => ⟨ρ1, M1, e2.ext a1, e.ext a1, b1, rd.ext a1, by cases b <;> exact h1⟩))) fun ok s3 ⟨H3, I3, ρ1, M1, q1, q0, q2, q3, q4⟩ => ?_
      cases ok with
      | true => exact pb.run pins s3 _ H3 D I3 (sb φ ρ1 _ M1 _ H3 D q1 q2 q4)
      | false => exact pr pins s3 _ H3 D (.ref a) _ false I3 (show RelV (.ref a) (Value.ref a) from rfl) (sr φ ρ1 _ M1 _ H3 d _ D q1 q2 q3 q4)
    · rw [if_neg (by omega)] at h
      exact pr pins s' σ H D (.ref a) _ false I' (show RelV (.ref a) (Value.ref a) from rfl) (sr φ ρ env M σ H d _ D e m rd h)
  · rename_i hx
    refine wpAny_matchPattern_Sequence ?_ C.nostar (C.nowild ne)
    refine seqM_no (K := ⟨X.K, φ⟩) rfl I m rd r hx ?_
    (simp only [Bool.false_eq_true, if_false])
    exact pr pins s σ H D _ _ false I r (sr φ ρ env M σ H d _ D e m rd h)
  · exact h.elim
end
end DL

namespace DL
open PySem L2 PyProof.Rows PySem.Spec

/-! ### a def that calls itself: nothing is said of it at the deepest -/
abbrev fnSt : Fn := fun _ _ => .st
theorem fn_st {P : Program} {w : World} {K : PySem.W.Frag} {mg : Str → Option Value} {base : Heap} {cx : CXT} {k n : Nat} {f : Addr} {fd : FuncData} {ps : List Str} : FnOk P w K mg base cx k f fd ps (spF K n fnSt) :=
  ⟨fun _ _ _ _ ⟨_, _, _, _, _, _, _, h⟩ => h.elim, fun _ _ _ _ _ _ _ _ _ _ _ _ _ ⟨_, _, _, _, _, _, _, h⟩ => h.elim⟩

/-! ### C.m(..): classmethods, staticmethods -/
/-- the def behind the record of a classmethod, a staticmethod -/
def wadr (K : PySem.W.Frag) (x m : Str) (t : String) : Addr := match PySem.W.recIn K (cadr K x m) t with
  | some (.ref g :: _) => g
  | _ => 0
def tWrap (x m : Str) (t g : String) : Ft := fun K => PySem.W.readsIn K (gadr K x) (.type "type") && (decide (PySem.W.specialIn K (.ref (gadr K x)) "__getattribute__" = some (some (.builtin "type.__getattribute__"))) &&
  ((match PySem.W.findCls K (.ref (gadr K x)) (.type "type") m with
    | some (.get (.builtin b) (.ref p) .none (.ref c)) => decide (b = g) && (decide (p = cadr K x m) && decide (c = gadr K x))
    | _ => false) && ((match PySem.W.recIn K (cadr K x m) t with
    | some (.ref _ :: _) => true
    | _ => false) && (PySem.W.fnIn K (wadr K x m t) && PySem.W.keepIn K (.ref (wadr K x m t))))))
structure WrapOk (K : PySem.W.Frag) (x m : Str) (t g : String) : Prop where
  rd : ClX.CRead K (gadr K x) (.type "type")
  at_ : PySem.W.findCls K (.ref (gadr K x)) (.type "type") m = some (.get (.builtin g) (.ref (cadr K x m)) .none (.ref (gadr K x)))
  rc : ∃ rest, PySem.W.recIn K (cadr K x m) t = some (.ref (wadr K x m t) :: rest)
  fi : PySem.W.fnIn K (wadr K x m t) = true
  kp : PySem.W.keepIn K (.ref (wadr K x m t)) = true
theorem tWrap_ok {K : PySem.W.Frag} {x m : Str} {t g : String} (c : tWrap x m t g K = true) : WrapOk K x m t g := by
  obtain ⟨c1, c⟩ := Bool.and_eq_true_iff.mp c
  obtain ⟨c2, c⟩ := Bool.and_eq_true_iff.mp c
  obtain ⟨c3, c⟩ := Bool.and_eq_true_iff.mp c
  obtain ⟨c4, c⟩ := Bool.and_eq_true_iff.mp c
  obtain ⟨c5, c6⟩ := Bool.and_eq_true_iff.mp c
  refine ⟨⟨c1, of_decide_eq_true c2⟩, ?_, ?_, c5, c6⟩
  · split at c3
    · rename_i b p c e
      obtain ⟨q1, q⟩ := Bool.and_eq_true_iff.mp c3
      obtain ⟨q2, q3⟩ := Bool.and_eq_true_iff.mp q
      rw [e, of_decide_eq_true q1, of_decide_eq_true q2, of_decide_eq_true q3]
    · cases c3
  · clear c5 c6
    unfold wadr
    split at c4
    · rename_i f r e
      exact ⟨r, by rw [e]⟩
    · cases c4
structure CmtD (P : Program) (w : World) (K : PySem.W.Frag) (mg : Str → Option Value) (base : Heap) (k : Nat) (c m : Str) (n : Nat) (F : Fn) : Prop where
  mg_ : mg c = some (.ref (gadr K c))
  wr : WrapOk K c m "classmethod" "classmethod.__get__"
  ok : ∃ (fd : FuncData) (ps : List Str), ps.length = n + 1 ∧ FnOk P w K mg base (L2.CX P w) k (wadr K c m "classmethod") fd ps (spF K (n + 1) F) ∧ L2.Binds K fd ps []
structure SmtD (P : Program) (w : World) (K : PySem.W.Frag) (mg : Str → Option Value) (base : Heap) (k : Nat) (c m : Str) (n : Nat) (F : Fn) : Prop where
  mg_ : mg c = some (.ref (gadr K c))
  wr : WrapOk K c m "staticmethod" "staticmethod.__get__"
  ok : ∃ (fd : FuncData) (ps : List Str), ps.length = n ∧ FnOk P w K mg base (L2.CX P w) k (wadr K c m "staticmethod") fd ps (spF K n F) ∧ L2.Binds K fd ps []
/-- a raw call of a classmethod's function, at these slots -/
theorem run_cmS {X : Cx} {W : WX} {k : Nat} {q C g : Addr} {sp : Sp} {Q : VK} {us : List Value} {vs : List V} {pins : List (Addr × Obj)} {σ : L2.St} {H : Hp} {s : Shared} (G : FnR X.prog X.w X.K X.mg X.base (L2.CX X.prog X.w) k g sp) (hr : Room k X.A) (tk : Takes X W) (I : Inv X ((q, PySem.W.methodObj (.ref g) (.ref C)) :: pins) σ H s)
    (r : Vals vs us) (h : sp (.ref C :: vs) H Q (WE W σ)) : wpAny (model X.prog X.w) X.A (call (.ref q) us) (EP X pins σ Q) X.xe s := by
  have z : wpAny (model X.prog X.w) X.A (call (.ref q) us) (EP X ((q, PySem.W.methodObj (.ref g) (.ref C)) :: pins) σ Q) X.xe s := by
    refine wpAny_call (PySem.W.method_call (ClX.pin_at I) ?_)
    refine codeAny_mono (G.run X.A X.stack s H (.ref C :: us) (.ref C :: vs) Q (WE W σ) hr I.env0 (.cons rfl r) h) fun z s' hz => ?_
    match z, hz with
    | .error e, hz => exact passAt tk σ _ H s e s' I hz
    | .ok (.ret u), hz => exact I.after hz
  exact thn z fun _ _ y => ClX.unpinE y
def eCmt (c : Str) (F : Fn) (f : EvL) : Ev := fun env M => (f env M).bind fun ds M1 => callF F (.glo c :: ds) M1
section
variable {X : Cx} {W : WX} {pos p apos : Pos} {a : Expr} {es : List Expr} {fl : EvL} {c m : Str} {k j n : Nat} {F : Fn} {pl : Sem Bool}
/-- C.m(e, ..), m a classmethod -/
theorem de_cmt (C : CmtD X.prog X.w X.K X.mg X.base k c m n F) (hr : Room j X.A) (hk : k ≤ j) (hg : Gl X c) (tk : Takes X W) (ha : DA X W (a :: es) fl) (hn : (a :: es).length = n := by rfl) (hdb : (c == ("__debug__" : Str)) = false := by decide)
    (h1 : starEach (a :: es) X.env = (false, eval a X.env) :: starEach es X.env := by rfl) (h2 : (backTo pos (starEach es X.env)).any (·.1) = false := by rfl)
    (ht : eval (.Call (.Attribute (.Name c p) m apos) (a :: es) [] pos) X.env = (eval (.Name c p) X.env >>= fun ov => standAt apos.atName >>= fun _ => holding [ov] (getMethod ov m pl) >>= fun z => callWith pos z.1 z.2 (backTo pos (starEach (a :: es) X.env)) (backToKw pos (keywordEach [] X.env))) := by rfl) :
    DE X W (.Call (.Attribute (.Name c p) m apos) (a :: es) [] pos) (eCmt c F fl) := by
  obtain ⟨fd, ps, hl, G, b⟩ := C.ok
  obtain ⟨ta, pa, la, sa⟩ := ha
  refine ⟨fun σ H Q => ta σ H fun vs H2 => spF X.K (n + 1) F (.ref (gadr X.K c) :: vs) H2 Q (WE W σ), ⟨fun pins s σ H Q I h => ?_⟩, fun φ ρ env M σ H Q e mm h => ?_⟩
  · refine PySem.W.methodCall_KW (pl := pl) (ld_glob I hg C.mg_ ?_ hdb) ht
    refine ClX.getmethcm_ok I C.wr.rd ⟨C.wr.at_, C.wr.rc, C.wr.fi⟩ fun s2 I2 => ?_
    refine ClX.callwith_cm I2 (ClX.base_none I (Nat.le_refl _)) C.wr.fi (thn (pa.run pos _ s2 σ H _ I2 h) fun us s3 hh => ?_) h1 h2
    obtain ⟨vs, H2, I3, rv, q2⟩ := hh
    refine ⟨⟨ClX.pin_at I3, I3.kIn⟩, ?_⟩
    exact run_cmS ((G.mono hk).raw b .nil) hr tk I3 rv (by rw [List.append_nil]; exact q2)
  unfold eCmt at h
  cases q : fl env M with
  | ok ds M1 =>
    rw [q] at h
    refine sa φ ρ env M σ H _ e mm ?_
    rw [q]
    intro ρ1 H1 vs a1 b1 c1
    exact callF_sound (K := ⟨X.K, φ⟩) (σ := σ) (by show ds.length + 1 = _; rw [la _ _ _ _ q, hn]) (.cons .glo c1) b1 (Post.ext a1 h)
  | ex x M1 =>
    rw [q] at h
    refine sa φ ρ env M σ H _ e mm ?_
    rw [q]
    exact h
  | st => rw [q] at h; exact h.elim
/-- C.m(e, ..), m a staticmethod -/
theorem de_smt (C : SmtD X.prog X.w X.K X.mg X.base k c m n F) (hr : Room j X.A) (hk : k ≤ j) (hg : Gl X c) (tk : Takes X W) (ha : DA X W (a :: es) fl) (hn : (a :: es).length = n := by rfl) (hdb : (c == ("__debug__" : Str)) = false := by decide)
    (h1 : starEach (a :: es) X.env = (false, eval a X.env) :: starEach es X.env := by rfl) (h2 : (backTo pos (starEach es X.env)).any (·.1) = false := by rfl)
    (ht : eval (.Call (.Attribute (.Name c p) m apos) (a :: es) [] pos) X.env = (eval (.Name c p) X.env >>= fun ov => standAt apos.atName >>= fun _ => holding [ov] (getMethod ov m pl) >>= fun z => callWith pos z.1 z.2 (backTo pos (starEach (a :: es) X.env)) (backToKw pos (keywordEach [] X.env))) := by rfl) :
    DE X W (.Call (.Attribute (.Name c p) m apos) (a :: es) [] pos) (eFn F fl) := by
  obtain ⟨fd, ps, hl, G, b⟩ := C.ok
  obtain ⟨ta, pa, la, sa⟩ := ha
  refine ⟨fun σ H Q => ta σ H fun vs H1 => spF X.K n F vs H1 Q (fun c d H => W c d σ H), ⟨fun pins s σ H Q I h => ?_⟩, fun φ ρ env M σ H Q e mm h => ?_⟩
  · refine PySem.W.methodCall_KW (pl := pl) (ld_glob I hg C.mg_ ?_ hdb) ht
    obtain ⟨rest, hp⟩ := C.wr.rc
    refine PySem.W.method_cls I.kIn C.wr.rd.ga ?_
    refine PySem.W.cls_bind I.kIn C.wr.rd.rd C.wr.at_ ?_
    refine wpAny_call (PySem.W.sm_get (s := { s with toks := s.toks + 1 }) I.kIn hp (PySem.W.handed_on rfl ?_))
    have I1 := I.tok (s.toks + 1)
    refine PySem.W.callWith_K (h₀ := X.base) I.ok.mod.kin C.wr.kp (thn (pa.run pos pins _ σ H _ I1 h) fun us s1 ⟨vs, H1, I2, r, q⟩ => ⟨I2.kIn, ?_⟩) h1 h2
    refine run_fnSD (E := fun σ c d H => W c d σ H) (dvs := []) (G.mono hk) hr b .nil (passAt tk σ) I2 r ?_
    rw [List.append_nil]
    exact q
  · unfold eFn at h
    cases q : fl env M with
    | ok ds M1 =>
      rw [q] at h
      refine sa φ ρ env M σ H _ e mm ?_
      rw [q]
      intro ρ1 H1 vs a1 b1 c1
      exact callF_sound (K := ⟨X.K, φ⟩) (σ := σ) ((la _ _ _ _ q).trans hn) c1 b1 (Post.ext a1 h)
    | ex x M1 =>
      rw [q] at h
      refine sa φ ρ env M σ H _ e mm ?_
      rw [q]
      exact h
    | st => rw [q] at h; exact h.elim
/-- cls(e, ..), cls a local name that stands for the class C -/
def eMakeV (c : Str) (F : Fn) (f0 : Ev) (f : EvL) : Ev := fun env M => (f0 env M).bind fun d M0 => match d with
  | .glo x => if x = c then (f env M0).bind (makeF c F) else .st
  | _ => .st
theorem de_makV {x : Str} {f0 : Ev} (C : MakD X.prog X.w X.K X.mg X.base k c n F) (hr : Room j X.A) (hk : k + 1 ≤ j) (h0 : DE X W (.Name x p) f0) (tk : Takes X W) (ha : DA X W (a :: es) fl) (hn : (a :: es).length = n := by rfl)
    (h1 : starEach (a :: es) X.env = (false, eval a X.env) :: starEach es X.env := by rfl) (h2 : (backTo pos (starEach es X.env)).any (·.1) = false := by rfl) : DE X W (.Call (.Name x p) (a :: es) [] pos) (eMakeV c F f0 fl) := by
  obtain ⟨fa, fd, ps, hl, Mk, G, b⟩ := C.ok
  obtain ⟨t0, p0, s0⟩ := h0
  obtain ⟨ta, pa, la, sa⟩ := ha
  refine ⟨fun σ H Q => t0 σ H fun v H0 => v = .ref (gadr X.K c) ∧ (ta σ H0 fun vs H1 => ∀ y dy, H1 y = none → H1 dy = none → dy ≠ y → spF X.K (n + 1) F (.ref y :: vs) (upd (upd H1 dy (.own y)) y (.ins (gadr X.K c) dy [])) (fun v H2 => v = .non ∧ Q (.ref y) H2) (WE W σ)), ⟨fun pins s σ H Q I h => ?_⟩, fun φ ρ env M σ H Q e mm h => ?_⟩
  · refine wpAny_Call_Name_kw (thn (p0.run pins s σ H _ I h) fun u s0 ⟨v, H0, I0, r0, e0, q0⟩ => ?_)
    subst e0
    obtain rfl : u = Value.ref (gadr X.K c) := r0
    refine PySem.W.callWith_K (h₀ := X.base) I.ok.mod.kin Mk.kp (thn (pa.run pos pins s0 σ H0 _ I0 q0) fun us s1 ⟨vs, H1, I1, r, q⟩ => ⟨I1.kIn, ?_⟩) h1 h2
    exact run_makeS Mk G (hr.mono hk) b tk I1 r q
  · refine s0 φ ρ env M σ H _ e mm (Post.bind h fun d M0 ρ0 H0 v a0 b0 c0 h0 => ?_)
    split at h0
    · rename_i y
      split at h0
      · rename_i hy
        subst hy
        cases c0
        refine ⟨rfl, ?_⟩
        cases q : fl env M0 with
        | ok ds M1 =>
          rw [q] at h0
          refine sa φ ρ0 env M0 σ H0 _ (e.ext a0) b0 ?_
          rw [q]
          intro ρ1 H1 vs a1 b1 c1 y dy g1 g2 hne
          exact makeF_sound (K := ⟨X.K, φ⟩) (σ := σ) (by rw [la _ _ _ _ q, hn]) c1 b1 (Post.ext a1 h0) g1 g2 hne
        | ex y M1 =>
          rw [q] at h0
          refine sa φ ρ0 env M0 σ H0 _ (e.ext a0) b0 ?_
          rw [q]
          exact h0
        | st => rw [q] at h0; exact h0.elim
      · exact h0.elim
    · exact h0.elim
end
end DL

namespace DL
open PySem L2 PyProof.Rows PySem.Spec

/-! ### enumerate(v), v a tuple -/
theorem enum_one {v : Value} {o : Obj} {G : Heap → Prop} (B : Begins v o G) :
    Meets (Builtin.«enumerate.__new__» ⟨[.type "enumerate", v], []⟩) (fun _ R s => G s.heap ∧
      R (.ok (.ret (.ref (s.heap.push o).objs.size))) { s with heap := (s.heap.push o).push { cls := .type "enumerate", data := .fields #[.none, .bool false, .ref s.heap.objs.size, rawInt 0, .none, .none] } }) :=
  .of_wp fun prog w A R z y => by
    obtain ⟨hp, g, d, tk, os⟩ := z
    obtain ⟨hg, h⟩ := y
    have known := sub_enumerate
    have q1 : ∀ {A' : Around} {E : Value → Shared → Prop} {Q : Value → Shared → Prop}, Q (.ref hp.objs.size) ⟨hp.push o, g, d, tk, os⟩ → wpAny (model prog w) A' (pyIter v) Q E ⟨hp, g, d, tk, os⟩ := fun q => B.iter _ _ _ _ ⟨hp, g, d, tk, os⟩ _ hg q
    wp_walk using q1
    (refine wpAny_stack_any fun st => wpAny_pure ?_)
    split
    · rename_i k _ _ _ _ _
      cases (k == Value.type "enumerate") <;> (wp_walk using q1; exact ⟨_, rfl, h⟩)
    · wp_walk using q1
      exact ⟨_, rfl, h⟩
theorem call_enum {prog : Program} {w : World} {A : Around} {E : Value → Shared → Prop} {s : Shared} {v : Value} {o : Obj} {G : Heap → Prop} {Q : Value → Shared → Prop} (B : Begins v o G) (h1 : G s.heap)
    (h : ∀ h', IsEnum h' (s.heap.objs.size + 1) s.heap.objs.size 0 .none → h'.get? s.heap.objs.size = some o → (∀ b ob, s.heap.get? b = some ob → h'.get? b = some ob) → Q (.ref (s.heap.objs.size + 1)) { s with heap := h' }) :
    wpAny (model prog w) A (call (.type "enumerate") [v]) Q E s := by
  refine callType_new F.called_enumerate (by decide) (F.typeCall_enumerate_1 _) (F.newCall_enumerate_1 _) (fun obj => F.args_object_init_2 obj _) F.entry_enumerate_new (enum_one B) ⟨h1, ?_⟩
  (have hz : (s.heap.push o).objs.size = s.heap.objs.size + 1 := Heap.size_push ..)
  show _ ∧ _
  rw [hz]
  have he : IsEnum ((s.heap.push o).push { cls := .type "enumerate", data := .fields #[.none, .bool false, .ref s.heap.objs.size, rawInt 0, .none, .none] }) (s.heap.objs.size + 1) s.heap.objs.size 0 .none := by
    have q := Heap.get?_push_size (s.heap.push o) (o := { cls := .type "enumerate", data := .fields #[.none, .bool false, .ref s.heap.objs.size, rawInt 0, .none, .none] }) rfl
    rw [hz] at q
    exact q
  exact ⟨⟨_, he, rfl⟩, h _ he (Heap.get?_push_of_some _ (Heap.get?_push_size _ B.free)) fun b ob x => Heap.get?_push_of_some _ (Heap.get?_push_of_some _ x)⟩
/-- the items of the tuple at a, numbered, in new pairs -/
def Itu (K : PySem.W.Frag) (a : Addr) : It :=
  ⟨fun i H => ∃ xs x, SqT K H a xs ∧ xs[i]? = some x, fun i H v H' => ∃ p x, v = .ref p ∧ H p = none ∧ H' = upd H p (.tup [.int (i : Nat), x]) ∧ ∀ xs, SqT K H a xs → xs[i]? = some x, fun i H => ∃ xs, SqT K H a xs ∧ xs.length = i⟩
theorem tup_inj {X : Cx} {pins : List (Addr × Obj)} {σ : L2.St} {H : Hp} {s : Shared} {a : Addr} {xs ys : List V} (I : Inv X pins σ H s) (h : SqT X.K H a xs) (h' : SqT X.K H a ys) : ys = xs := I.tuple_inj h' h
theorem turn_enumT {P : Program} {w : World} {K : PySem.W.Frag} {elts : List Expr} {kk : Nat} {tpos : Pos} (a e it : Addr) :
    Turn P w K (.Tuple elts kk tpos) (Itu K a) [e, it] e (fun i h => (∃ old, IsEnum h e it ((0 : Int) + (i : Int)) old) ∧ h.IsTupleIter it a i ∧ e ≠ it) where
  mem := by simp
  obj := fun i h st b hb => by
    obtain ⟨⟨old, he⟩, ⟨oi, ei, _, di⟩, _⟩ := st
    have q : b = e ∨ b = it := by simpa using hb
    rcases q with rfl | rfl
    · exact ⟨_, he, fun v q => nomatch q⟩
    · exact ⟨oi, ei, fun v q => by rw [di] at q; cases q⟩
  keep := fun i h h' st k => by
    obtain ⟨⟨old, he⟩, hi, ne⟩ := st
    exact ⟨⟨old, k e (by simp) _ he⟩, hi.at fun o q => k it (by simp) o q, ne⟩
  item := by
    (intro X hP hw hK hc i pins s σ H E I hf st hg)
    subst hP hw hK
    obtain ⟨⟨old, he⟩, hit, ne⟩ := st
    obtain ⟨xs, x, hq, hx⟩ := hg
    (obtain ⟨its, rv, ht, hz⟩ := I.tuple hq)
    (obtain ⟨u, hu, ru⟩ := rv.get hx)
    obtain ⟨oa, ea, ca, na, da⟩ := id ht
    have ni : a ≠ it := by
      obtain ⟨oi, ei, ci, _⟩ := hit
      rintro rfl
      rw [ea] at ei; cases ei
      rw [ca] at ci
      exact absurd (Value.type.inj ci) (by decide)
    have ne2 : a ≠ e := by
      rintro rfl
      have he' : s.heap.get? a = some _ := he
      rw [ea] at he'; cases he'
      exact absurd (Value.type.inj ca) (by decide)
    have hl : i < its.toArray.size := by
      have := (List.getElem?_eq_some_iff.mp hu).1
      simpa using this
    have hh : X.A.in1.handled = none := I.ok.hd hc
    have W := GoesN.enumFrom (prog := X.prog) (w := X.w) (A := X.A) (elts := elts) (x1 := kk) (pos := tpos) 0 (Draws.tuple (prog := X.prog) (w := X.w) hh it a ni its.toArray) e ne (by simp [ne, ne2.symm]) (by simp)
    refine wpAny_mono (W.goes i s (fun v s2 => ∃ x' H', Inv X pins σ H' s2 ∧ RelV x' v ∧ (Itu X.K a).yld i H x' H' ∧ ((∃ old, IsEnum s2.heap e it ((0 : Int) + ((i + 1 : Nat) : Int)) old) ∧ s2.heap.IsTupleIter it a (i + 1) ∧ e ≠ it) ∧ ∀ b ∈ [e, it], H' b = none) E hl ⟨⟨old, he⟩, hit, ht⟩
      fun v h' tk Y St' k _ => ?_) (fun r s1 z => z) fun _ _ z => z
    obtain ⟨T, t, y, rfl, hT, hy, hv⟩ := Y
    have ey : y = u := by
      have h2 : its.toArray[i]? = some u := by simpa using hu
      rw [h2] at hy
      exact (Option.some.inj hy).symm
    subst ey
    obtain ⟨he', hit', _⟩ := St'
    obtain ⟨oT, eT, cT, nT, dT⟩ := hv
    (have hn : H T = none := I.hok.fresh hT)
    have hk : ∀ b ob, b ∉ [e, it] → s.heap.get? b = some ob → h'.get? b = some ob := fun b ob hb q => k b ob hb q
    have new : ObjOk X.prog X.w (upd H T (.tup [.int (i : Nat), x])) h' T (.tup [.int (i : Nat), x]) :=
      ⟨by show 2 ≤ sizeLine; decide, [.int (0 + (i : Int)) t, y], .cons ⟨t, by rw [Int.zero_add]⟩ (.cons ru .nil), ⟨oT, eT, cT, nT, dT⟩⟩
    have I1 : Inv X pins σ (upd H T (.tup [.int (i : Nat), x])) { s with heap := h', toks := tk } := I.turnedNew (ch := [e, it]) (t' := tk) hk hf hT new
    refine ⟨.ref T, _, I1, rfl, ⟨T, x, rfl, hn, rfl, fun ys hy => by rw [tup_inj I hq hy]; exact hx⟩, ⟨he', hit', ne⟩, fun b hb => ?_⟩
    have hb' : b < s.heap.objs.size := by
      have q : b = e ∨ b = it := by simpa using hb
      rcases q with z | z
      · rw [z]; exact Heap.lt_size he
      · rw [z]; obtain ⟨oi, ei, _⟩ := hit; exact Heap.lt_size ei
    rw [upd_ne (Nat.ne_of_lt (Nat.lt_of_lt_of_le hb' hT))]
    exact (hf b hb).1
  done := by
    (intro X hP hw hK hc i pins s σ H E I hf st hg)
    subst hP hw hK
    obtain ⟨⟨old, he⟩, hit, ne⟩ := st
    obtain ⟨xs, hq, hx⟩ := hg
    (obtain ⟨its, rv, ht, hz⟩ := I.tuple hq)
    have hh : X.A.in1.handled = none := I.ok.hd hc
    have hl : i = its.toArray.size := by
      have := rv.length
      simp
      omega
    obtain ⟨oa, ea, ca, na, da⟩ := id ht
    have ni : a ≠ it := by
      obtain ⟨oi, ei, ci, _⟩ := hit
      rintro rfl
      rw [ea] at ei; cases ei
      rw [ca] at ci
      exact absurd (Value.type.inj ci) (by decide)
    (obtain ⟨f0, f1, f2, f3, f4, f5⟩ := hf it (by simp))
    subst hl
    refine wpAny_pyNext_enum_endD (Draws.tuple (prog := X.prog) (w := X.w) (A := X.A.in1) hh it a ni its.toArray) he ⟨hit, ht⟩ fun h' eb => ⟨rfl, I.turned (t' := s.toks) (fun b o hb q => eb b o hb q) f0 f1 f3 f4 f5⟩
  self := fun A i z Q E st y => let ⟨⟨_, he⟩, _⟩ := st; wpAny_pyIter_enum he y
theorem jw_enumT {K : Kx} {ρ1 : List Addr} {H1 : Hp} {a : Addr} {ds : List D} (h : ∀ ρ2 H2, Ext ρ1 H1 ρ2 H2 → ∃ xs, SqT K.K H2 a xs ∧ RDs K ρ2 H2 ds xs) : JW K (Itu K.K a) ρ1 H1 cYes (enumD ds) := by
  intro i ρ2 H2 M2 ex m c
  obtain ⟨xs, s, r⟩ := h ρ2 H2 ex
  refine ⟨fun d hd => ?_, fun hi => ⟨xs, s, by rw [← r.length]; unfold enumD at hi; simp at hi; omega⟩⟩
  unfold enumD at hd
  rw [List.getElem?_zipWith] at hd
  cases q2 : ds[i]? with
  | none => rw [q2] at hd; cases q1 : (List.range ds.length)[i]? <;> rw [q1] at hd <;> cases hd
  | some e =>
    have hl := (List.getElem?_eq_some_iff.mp q2).1
    rw [q2, List.getElem?_range hl] at hd
    cases hd
    obtain ⟨v, hv, rv⟩ := r.get q2
    refine ⟨⟨xs, v, s, hv⟩, fun x H' y => ?_⟩
    obtain ⟨T, z, rfl, hT, rfl, y⟩ := y
    have := y xs s
    rw [hv] at this
    cases this
    exact ⟨.new hT, m.new hT, new_itm m hT (.cons (.int _) (.cons rv .nil))⟩
/-- enumerate(e), e a list, a tuple -/
def iEnA (f : Ev) : EvI := fun env M => (f env M).bindI fun d M1 => match d with
  | .tup xs => .ok (enumD xs) cYes M1
  | .itm xs => .ok (enumD xs) cYes M1
  | d => match derefL M1 d with
    | some xs => .ok (enumD xs) (chkL d xs) M1
    | none => .st
def wiEn (K : PySem.W.Frag) (te : TA) : TI := fun σ H R => te σ H fun vs H1 => ∃ a, vs = [.ref a] ∧ ((∃ xs, SqL K H1 a xs ∧ R (Ite K a) H1) ∨ (∃ xs, SqT K H1 a xs ∧ R (Itu K a) H1))
section
variable {X : Cx} {W : WX} {pos p tpos : Pos} {a : Expr} {fa : Ev} {elts : List Expr} {kk : Nat} {ta : TA}
theorem pi_enumA (hg : Gl X "enumerate") (hm : X.mg "enumerate" = none) (ha : PA X [a] ta) (hs : starEach [a] X.env = [(false, eval a X.env)] := by rfl) :
    PI X (.Tuple elts kk tpos) (.Call (.Name "enumerate" p) [a] [] pos) (wiEn X.K ta) := by
  (refine ⟨fun pins s σ H R I h => ?_⟩)
  (refine Call_ (ld_blt I hg hm boot_enumerate (PyProof.Rows.callWith_type1 (thn (ha.run pos pins s σ H _ I h) fun us s1 ⟨vs, H1, I1, r1, q1⟩ => ?_) hs rfl)))
  obtain ⟨b, ex, q1⟩ := q1
  subst ex
  cases r1 with
  | cons r rr =>
    cases rr
    cases r
    have fresh : ∀ {c : Addr}, c ∈ [s1.heap.objs.size + 1, s1.heap.objs.size] → FpOk X pins H1 c := fun {c} hc => by
      have e' : c = s1.heap.objs.size + 1 ∨ c = s1.heap.objs.size := by simpa using hc
      have hle : s1.heap.objs.size ≤ (c : Nat) := by
        rcases e' with z | z
        · rw [z]; exact Nat.le_succ _
        · exact Nat.le_of_eq z.symm
      (exact I1.fpOk hle (I1.hok.fresh hle))
    rcases q1 with ⟨xs, hq, q⟩ | ⟨xs, hq, q⟩
    · (obtain ⟨its, rv, p', hz⟩ := I1.list hq)
      (refine call_enumerate_list p'.isList fun h' he hit hsz hk => wpAny_pyIter_enum he ?_)
      exact ⟨s1.heap.objs.size + 1, [s1.heap.objs.size + 1, s1.heap.objs.size], _, _, H1, rfl, I1.kept (t' := s1.toks) hk, turn_enum b _ _, ⟨⟨.none, he⟩, hit, Nat.succ_ne_self _⟩, fun c hc => fresh hc, q⟩
    · (obtain ⟨its, rv, p', hz⟩ := I1.tuple hq)
      refine call_enum (begins_tuple b its.toArray) p' fun h' he hit hk => wpAny_pyIter_enum he ?_
      exact ⟨s1.heap.objs.size + 1, [s1.heap.objs.size + 1, s1.heap.objs.size], _, _, H1, rfl, I1.kept (t' := s1.toks) hk, turn_enumT b _ _, ⟨⟨.none, he⟩, ⟨_, hit, rfl, rfl⟩, Nat.succ_ne_self _⟩, fun c hc => fresh hc, q⟩
theorem di_enumA (hg : Gl X "enumerate") (hm : X.mg "enumerate" = none) (ha : DE X W a fa) (hs : starEach [a] X.env = [(false, eval a X.env)] := by rfl) (hs2 : starEach [a] X.env = (false, eval a X.env) :: starEach [] X.env := by rfl) :
    DI X W (.Tuple elts kk tpos) (.Call (.Name "enumerate" p) [a] [] pos) (iEnA fa) := by
  obtain ⟨ta, pa, sa⟩ := ha
  refine ⟨_, pi_enumA hg hm (pa_cons pa pa_nil hs2) hs, fun φ ρ env M σ H R e m h => ?_⟩
  refine sa φ ρ env M σ H _ e m (PostI.bind h fun d M1 ρ1 H1 v a1 b1 c1 h1 => ?_)
  have lst : ∀ xs, derefL M1 d = some xs → PostI ⟨X.K, φ⟩ W ρ1 σ H1 (.ok (enumD xs) (chkL d xs) M1) R → ∃ a, [v] = [V.ref a] ∧ ((∃ xs, SqL X.K H1 a xs ∧ R (Ite X.K a) H1) ∨ (∃ xs, SqT X.K H1 a xs ∧ R (Itu X.K a) H1)) := fun xs hx h2 => by
    obtain ⟨q, rfl, ⟨ys, s⟩, ck, st⟩ := derefL_stay b1 c1 hx
    exact ⟨q, rfl, .inl ⟨ys, s, h2 _ _ _ .refl b1 ck fun K' hh => jw_enum (K := ⟨X.K, K'⟩) (st K' hh)⟩⟩
  cases c1 with
  | tup hh rr => exact ⟨_, rfl, .inr ⟨_, hh.sq, h1 _ _ _ .refl b1 rfl fun K' hd => jw_enumT (K := ⟨X.K, K'⟩) fun ρ2 H2 ex => ⟨_, ((hh.hide hd).ext ex).sq, (rr.hide hd).ext ex⟩⟩⟩
  | itm hh nn rr => exact ⟨_, rfl, .inr ⟨_, .inl (.inl hh), h1 _ _ _ .refl b1 rfl fun K' hd => jw_enumT (K := ⟨X.K, K'⟩) fun ρ2 H2 ex => ⟨_, .inl (.inl (ex.keep _ _ hh nn.1)), (rr.hide hd).ext ex⟩⟩⟩
  | lst hh nn rr => exact lst _ rfl h1
  | fzl hh rr => exact lst _ rfl h1
  | @ref l q hq =>
    have h1 : PostI ⟨X.K, φ⟩ W ρ1 σ H1 (match derefL M1 (.ref l) with | some xs => .ok (enumD xs) (chkL (.ref l) xs) M1 | none => .st) R := h1
    split at h1
    · rename_i xs hx
      exact lst xs hx h1
    · exact h1.elim
  | _ => exact h1.elim
end
end DL

namespace DL
open PySem L2 PyProof.Rows PySem.Spec

/-! ### isinstance(x, C), C an own class -/
def builtinTs : List String := ["NoneType", "bool", "int", "str", "tuple", "list", "dict"]
/-- what is asked of an instance's class -/
def tInst (c : Str) : Ft := fun K => tCls c K && (decide (PySem.W.findIn K (.ref (gadr K c)) "__class__" = some (some (.builtin "object.__class__"))) && (decide (PySem.W.specialIn K (.builtin "object.__class__") "__get__" = some (some (.builtin "getset_descriptor.__get__"))) &&
  (decide (PySem.W.takesIn K (.builtin "object.__class__") = some true) && decide (PySem.W.mroIn K (gadr K c) (.type "object") = some true))))
/-- the classes ys are C or below it, the classes ns are not -/
def tIsC (c : Str) (ys ns : List Str) : Ft := fun K => (builtinTs.all fun t => decide (PySem.W.kitOne K (.type t) (.ref (gadr K c)) = some false)) &&
  ((ys.all fun y => tInst y K && decide (PySem.W.kitOne K (.ref (gadr K y)) (.ref (gadr K c)) = some true)) && ns.all fun y => tInst y K && decide (PySem.W.kitOne K (.ref (gadr K y)) (.ref (gadr K c)) = some false))
/-- isinstance(x, C) -/
def nIsC (c : Str) (ys ns : List Str) : OpN := fun xs M => match xs with
  | [d, .glo x] => if x = c then (match insD M d with
    | some (y, _) => if ys.contains y then .ok (.bl true) M else if ns.contains y then .ok (.bl false) M else .st
    | none => match tyD M d with
      | some t => if builtinTs.contains t then .ok (.bl false) M else .st
      | none => .st) else .st
  | _ => .st
/-! ### x == y by an own __eq__ -/
/-- C's own == is F -/
structure EqlD (P : Program) (w : World) (K : PySem.W.Frag) (mg : Str → Option Value) (base : Heap) (k : Nat) (c : Str) (F : Fn) : Prop where
  met : MetD P w K mg base k c "__eq__" 2 F
  nf : ∀ t ∈ builtinTs, PySem.W.notFirst K (gadr K c) (.type t) = true
def tEql (c : Str) : Ft := fun K => builtinTs.all fun t => PySem.W.notFirst K (gadr K c) (.type t)
def eqlD (c : Str) (F : Fn) (x y : D) (M : Mem) : Out := match insD M x with
  | some (c1, _) => if c1 = c then (match insD M y with
    | some (c2, _) => if c2 = c then callF F [x, y] M else .st
    | none => match tyD M y with
      | some t => if builtinTs.contains t then callF F [x, y] M else .st
      | none => .st) else .st
  | none => .st
/-- the answer is a truth value -/
def blO : Out → Out
  | .ok (.bl b) M => .ok (.bl b) M
  | _ => .st
def gEql (c : Str) (F : Fn) : Op2 := fun x y M => blO (eqlD c F x y M)
end DL

namespace DL
open PySem L2 PyProof.Rows PySem.Spec
/-! ### set(xs), xs a list of ints -/
section
variable {P : Program} {w : World} {A : Around} {s : Shared} {E : Value → Shared → Prop}
abbrev oSet (w : World) : Obj := { cls := .type "set", dict := none, data := .set #[] 0 (.fresh 0 0 (!w.params.followText "set-order")) }
def SetDone (w : World) (s : Shared) (ns : List Int) (s2 : Shared) : Prop := ∃ g tk c, s2 = { s with heap := g, toks := tk } ∧ SetR w g s.heap.objs.size (fun j => decide (j ∈ ns)) c ∧ c ≤ ns.length ∧ ∀ b o, s.heap.get? b = some o → g.get? b = some o
end
/-! ### xs.count(k), xs of ints -/
def mCount (fo fa : Ev) : Ev := fun env M => (fo env M).bind fun d M1 => match derefL M1 d with
  | some _ => (fa env M1).bind fun y M2 => match (derefL M2 d).bind intsD, y with
    | some ns, .int k => .ok (.int (ns.count k : Nat)) M2
    | _, _ => .st
  | none => .st
section
variable {X : Cx} {W : WX} {o a : Expr} {fo fa : Ev} {pos apos : Pos}
end
/-! ### sorted(set(xs)) -/
def insU (x : Int) : List Int → List Int
  | [] => [x]
  | y :: r => if x < y then x :: y :: r else if x = y then y :: r else y :: insU x r
def srtU : List Int → List Int
  | [] => []
  | x :: r => insU x (srtU r)
theorem insU_mem (x k : Int) : ∀ l, k ∈ insU x l ↔ k = x ∨ k ∈ l
  | [] => by simp [insU]
  | y :: r => by
    unfold insU
    split
    · simp
    · split
      · rename_i h; subst h; simp
      · rw [List.mem_cons, insU_mem x k r, List.mem_cons]
        constructor
        · rintro (h | h | h)
          · exact .inr (.inl h)
          · exact .inl h
          · exact .inr (.inr h)
        · rintro (h | h | h)
          · exact .inr (.inl h)
          · exact .inl h
          · exact .inr (.inr h)
theorem srtU_mem (k : Int) : ∀ l, k ∈ srtU l ↔ k ∈ l
  | [] => by simp [srtU]
  | x :: r => by
    unfold srtU
    rw [insU_mem, srtU_mem k r, List.mem_cons]
theorem insU_pw (x : Int) : ∀ {l : List Int}, l.Pairwise (· < ·) → (insU x l).Pairwise (· < ·)
  | [], _ => List.pairwise_singleton _ _
  | y :: r, h => by
    have h' := List.pairwise_cons.1 h
    unfold insU
    split
    · rename_i q
      refine List.pairwise_cons.2 ⟨fun z hz => ?_, h⟩
      rcases List.mem_cons.1 hz with rfl | hz
      · exact q
      · exact Int.lt_trans q (h'.1 z hz)
    · split
      · exact h
      · refine List.pairwise_cons.2 ⟨fun z hz => ?_, insU_pw x h'.2⟩
        rcases (insU_mem x z r).1 hz with rfl | hz
        · omega
        · exact h'.1 z hz
theorem srtU_pw : ∀ l : List Int, (srtU l).Pairwise (· < ·)
  | [] => .nil
  | x :: r => insU_pw x (srtU_pw r)
theorem pw_nodup {l : List Int} (h : l.Pairwise (· < ·)) : l.Nodup := h.imp fun z => Int.ne_of_lt z
def nSrtU : OpN := fun xs M => match (readL M xs).bind intsD with
  | some ns => if ns.length + 1 < scanBound ∧ (srtU ns).length < 64 then .ok (.lst ((srtU ns).map .int)) M else .st
  | none => .st
def rSetI (K : PySem.W.Frag) (w : World) : List V → Hp → VK → Prop := fun xs H Q => ∃ (a : Addr) (ns : List Int), xs = [V.ref a] ∧ SqL K H a (ns.map V.int) ∧ ns.length + 1 < scanBound ∧ ∀ p, H p = none → Q (.ref p) (upd H p (SetO w p (fun j => decide (j ∈ ns)) (srtU ns).length))
section
variable {X : Cx} {W : WX}
end
end DL

namespace DL
open PySem L2 PyProof.Rows PySem.Spec
/-! ### xs.remove(k), xs a list of ints of the store -/
def mRemove (fo fa : Ev) : Ev := fun env M => (fo env M).bind fun d M1 => match d with
  | .ref l => match M1[l]? with
    | some (.lst _) => (fa env M1).bind fun y M2 => match y, M2[l]? with
      | .int k, some (.lst xs) => match intsD xs with
        | some ns => if k ∈ ns then .ok .non (M2.set l (.lst ((ns.erase k).map .int))) else .st
        | none => .st
      | _, _ => .st
    | _ => .st
  | _ => .st
section
variable {X : Cx} {W : WX} {o a : Expr} {fo fa : Ev} {pos apos : Pos}
end
end DL

namespace DL
open PySem L2 PyProof.Rows PySem.Spec
/-- a tuple, times 0 or 1 -/
def rRepB (K : PySem.W.Frag) : R2 := fun x y H Q => ∃ l k xs, x = .ref l ∧ y = .int k ∧ SqT K H l xs ∧ xs ≠ [] ∧ ((k = 1 ∧ Q (.ref l) H) ∨ (k = 0 ∧ ∀ p o, H p = none → o.dict = none → Q (.ref p) (upd H p (.frz o (.tup [])))))
section
variable {X : Cx} {W : WX}
def gRepT : Op2 := fun x y M => match x, y with
  | .tup (d :: ds), .int k => if k = 1 then .ok (.tup (d :: ds)) M else if k = 0 then .ok (.tup []) M else .st
  | _, _ => .st
abbrev gMul3 : Op2 := gOr gMul gRepT
end
end DL

namespace DL
open PySem L2 PyProof.Rows PySem.Spec
/-! ### xs != [], whatever xs holds -/
def gNeNil : Op2 := fun x y M => match derefL M x, y with
  | some xs, .lst [] => .ok (.bl (!xs.isEmpty)) M
  | _, _ => .st
def rNeNil (K : PySem.W.Frag) : R2 := fun x y H Q => ∃ a b xs, x = .ref a ∧ y = .ref b ∧ SqL K H a xs ∧ SqL K H b [] ∧ Q (.bl (!xs.isEmpty)) H
section
variable {X : Cx} {W : WX}
abbrev gNe2 : Op2 := gOr gNe gNeNil
end
end DL

/-! own exceptions whose __init__ says super().__init__(text) and keeps one field -/
namespace DX
open PySem PySem.W PySem.Calls PyProof.Rows PySem.HandSPX

/-- the built-in class that the class stands on -/
structure Bx where
  B : String
  ne : String
  ini : String
  bm : List Value
structure Bx.Ok (b : Bx) : Prop where
  FB : ExcBaseFacts b.B b.ne b.ini b.bm
  SF : StoreFacts b.B b.bm "object.__setattr__" "object"
  KF : KxsFacts b.B b.ini
def bVE : Bx := ⟨"ValueError", "ValueError.__new__", "ValueError.__init__", [.type "ValueError", .type "Exception", .type "BaseException", .type "object"]⟩
def bLE : Bx := ⟨"LookupError", "LookupError.__new__", "LookupError.__init__", [.type "LookupError", .type "Exception", .type "BaseException", .type "object"]⟩
def bIE : Bx := ⟨"IndexError", "IndexError.__new__", "IndexError.__init__", [.type "IndexError", .type "LookupError", .type "Exception", .type "BaseException", .type "object"]⟩
def bOE : Bx := ⟨"OverflowError", "OverflowError.__new__", "OverflowError.__init__", [.type "OverflowError", .type "ArithmeticError", .type "Exception", .type "BaseException", .type "object"]⟩
theorem okVE : bVE.Ok := ⟨F.excBase_ValueError, F.store_ValueError, kxs_ValueError⟩
theorem okLE : bLE.Ok := ⟨F.excBase_LookupError, F.store_LookupError, kxs_LookupError⟩
/-- the text of such an __init__ -/
structure Txt (body : List Stmt) (ps : Arguments) (sc : Scope) (f : PySem.Str) : Prop where
  body : ∃ (p0 p1 p2 p3 p4 p5 q1 q2 q3 q4 : Pos) (m : PySem.Str) (j : Nat), (∀ env : Env, ∃ pl : Sem Bool, eval (.Call (.Attribute (.Call (.Name "super" p0) [] [] p1) "__init__" p2) [.Constant (.str m) j p3] [] p4) env = (attributeBase (.Call (.Name "super" p0) [] [] p1) "__init__" env (eval (.Call (.Name "super" p0) [] [] p1) env) >>= fun ov => standAt p2.atName >>= fun _ => holding [ov] (getMethod ov "__init__" pl) >>= fun fx => callWith p4 fx.1 fx.2 (backTo p4 (starEach [.Constant (.str m) j p3] env)) [])) ∧ body = [.Expr (.Call (.Attribute (.Call (.Name "super" p0) [] [] p1) "__init__" p2) [.Constant (.str m) j p3] [] p4) p5, .Assign [.Attribute (.Name "self" q1) f q2] (.Name f q3) q4]
  par : ∃ a : Arg, (ps.posonlyargs ++ ps.args).head? = some a ∧ a.arg = "self"
  kS : sc.names.lookup ("super" : PySem.Str) = some .globalImplicit
  kC : sc.names.lookup ("__class__" : PySem.Str) = some .free
  kI : sc.names.lookup ("self" : PySem.Str) = some .local
  kF : sc.names.lookup f = some .local
  noc : ∀ x ∈ sc.names, x.2 ≠ .cell
  co : sc.isCoroutine = false
  gen : sc.isGenerator = false
  kind : sc.kind = .function
  fd : (f == ("__debug__" : PySem.Str)) = false
  fs : (f == ("self" : PySem.Str)) = false
/-- what the program's main must be -/
structure Pf (P : Program) (file : PySem.Str) : Prop where
  file : ((P.main.file : PySem.Str) == file) = true
  top : (P.main.scope.names.lookup ("super" : PySem.Str)).isSome = false
/-- what the written part says of the class at cA, of its __init__ at fA -/
structure Fx (K : Frag) (file f : PySem.Str) (b : Bx) (cA fA : Addr) : Prop where
  iC : findIn K (.ref cA) "__init__" = some (some (.ref fA))
  tI : typeIn K (.ref fA) = some (.type "function")
  kC : keepIn K (.ref cA) = true
  exI : excInitIn K cA b.bm b.ne = true
  exO : excOver K cA b.bm = true
  sa : findIn K (.ref cA) "__setattr__" = some (some (.builtin "object.__setattr__"))
  tk : takerIn K cA f = some none
  hd : hasDictIn K cA = true
  exC : subIn K (.ref cA) (.type "BaseException") = some true
  tyC : typeIn K (.ref cA) = some (.type "type")
  suB : subIn K (.ref cA) (.type b.B) = some true
  sup : ks_superIn K cA cA "__init__" = some (some (.builtin b.ini))
  mro : mroIn K cA (.ref cA) = some true
  opq : nsIn K cStatics "thirdparty.any" = some none
  fn : ∃ (name qual : PySem.Str) (ps : Arguments) (body : List Stmt) (sc : Scope) (oc dV kV doc pm ct : Value) (od an : Option Addr) (cda cc : Addr) (osl : Array (Option Value)),
    K.lookup fA = some ⟨oc, od, .func (ksFn name qual ps body sc dV kV doc pm an (.ref cda) ct cc), osl⟩ ∧ codeIn K (.ref cda) qual = true ∧ Txt body ps sc f ∧
    (∀ (s : Shared) (x v : Value), BindsTo s (ksFn name qual ps body sc dV kV doc pm an (.ref cda) ct cc) ⟨[x, v], []⟩ [("self", x), (f, v)]) ∧
    (∃ (ccl : Value) (cdd : Option Addr) (ccs : Array (Option Value)) (vs : Array Value) (tf : Tok), K.lookup cda = some ⟨ccl, cdd, .fields vs, ccs⟩ ∧ vs[2]? = some (.str file tf)) ∧
    ∃ (cl : Value) (cld : Option Addr) (csl : Array (Option Value)), K.lookup cc = some ⟨cl, cld, .cell (some (.ref cA)), csl⟩

/-- what is left behind __init__ -/
structure Left (f : PySem.Str) (h h' : Heap) (x cA dx t1 : Addr) (v : Value) : Prop where
  keep : ∀ a o, a ≠ x → h.get? a = some o → h'.get? a = some o
  obj : h'.get? x = some (excO cA t1 |> fun o => { o with dict := some dx })
  dbig : h.objs.size ≤ dx
  dne : dx ≠ x
  ns : h'.Ns1 dx (fun y => if y = f then some v else none)
theorem ns_keeps {h h' : Heap} {L : Addr} {m : PySem.Str → Option Value} (hn : h.Ns L m) (k : ∀ o, h.get? L = some o → h'.get? L = some o) : h'.Ns L m := by
  obtain ⟨o, es, ep, ho, r⟩ := hn
  exact ⟨o, es, ep, k o ho, r⟩
section
open Builtin
open Builtin.ObjectAttr
theorem store_first {prog : Program} {w : World} {A : Around} {E : Value → Shared → Prop} {hh : Heap} {g : Array GenState} {d : Drawn} {t : Nat} {os : OsState} {K : Frag} {name : PySem.Str} {tk : Tok} {v : Value} {x cA : Addr} {fv : Array Value} {cd : ClassData} {bb : Bool} {Q : Fin → Shared → Prop}
    (X : K.In hh) (hx : hh.get? x = some { cls := .ref cA, data := .fields fv }) (hcd : clsIn K cA = some cd) (hdc : cd.hasDict = true)
    (hq : ∀ h' tk' dx, (∀ b o, b ≠ x → hh.get? b = some o → h'.get? b = some o) → hh.objs.size ≤ dx → dx ≠ x → h'.get? x = some { cls := .ref cA, dict := some dx, data := .fields fv } →
      h'.Ns1 dx (fun y => if y = name then some v else none) → Q (.done (.ret .none)) ⟨h', g, d, tk', os⟩) :
    wpAny (model prog w) A (storeInOwnDict (.ref x) (.ref cA) (.str name tk) name v bb) Q E ⟨hh, g, d, t, os⟩ := by
  have hxs : x ≠ hh.objs.size := Nat.ne_of_lt (Heap.lt_size hx)
  have hcls : Looks (model prog w) hh (classData cA) cd := looks_clsIn X hcd
  (obtain ⟨nm, bs, mro, ns, qn, hd, sn, sb, ab, col, del⟩ := cd)
  cases hdc
  unfold storeInOwnDict
  unfold ownDictForStores
  repeat (first | (with_reducible refine store_in_new ?_ ?_) | (with_reducible refine wpAny_loadPart_at hx ?_) | (with_reducible refine hcls.at ?_) | wp_step)
  · have q1 : ((hh.push { cls := .type "dict", data := .dict #[] }).get? hh.objs.size) = some _ := Heap.get?_push_at rfl rfl
    exact ⟨_, #[], _, (Heap.get?_update_ne _ _ _ _ hxs.symm).trans q1, rfl, fun e he => absurd he (by simp), fun _ => rfl⟩
  · intro h' tk' hn' hs
    have q2 : (hh.push { cls := .type "dict", data := .dict #[] }).get? x = some { cls := .ref cA, data := .fields fv } := (Heap.get?_push_of_some _ hx)
    refine hq h' tk' _ (fun b o hb ho => ?_) (Nat.le_refl _) hxs.symm ?_ hn'
    · refine (hs.2 b (Nat.ne_of_lt (Heap.lt_size ho))).trans ?_
      exact (Heap.get?_update_ne _ _ _ _ hb).trans (Heap.get?_push_of_some _ ho)
    · refine (hs.2 x hxs).trans ?_
      exact Heap.get?_update_self _ q2 rfl
end
section
variable {prog : Program} {w : World} {A : Around} {E : Value → Shared → Prop} {R : Result → Shared → Prop} {s : Shared} {K : Frag} {mg : PySem.Str → Option Value} {cA fA : Addr} {b : Bx} {file f : PySem.Str} {base : Heap}
theorem init_runs (T : Fx K file f b cA fA) (bo : b.Ok) (pf : Pf prog file) (hsu : mg "super" = none) (Mo : L2.Mod K mg base) (bk : ∀ a o, base.get? a = some o → s.heap.get? a = some o) {x t0 : Addr} {v : Value}
    (hlim : s.heap.NoLimit) (hx : s.heap.get? x = some (excO cA t0)) (hnk : K.lookup x = none) (hroom : A.depth < recursionLimit)
    (hq : ∀ h' tk dx t1, Left f s.heap h' x cA dx t1 v → R (.ok (.ret .none)) { s with heap := h', toks := tk }) :
    codeAny (model prog w) A (.call (.ref fA) ⟨[.ref x, v], []⟩) R s := by
  have X : K.In s.heap := fun a o e => bk a o (Mo.kin a o e)
  obtain ⟨name, qual, ps, body, sc, oc, dV, kV, doc, pm, ct, od, an, cda, cc, osl, hf, hcd, tx, hb, ⟨ccl, cdd, ccs, vs, tf, hcode, hvs⟩, cl, cld, csl, hcell⟩ := T.fn
  obtain ⟨p0, p1, p2, p3, p4, p5, q1, q2, q3, q4, m, j, hev, rfl⟩ := tx.body
  obtain ⟨ar, har, hself⟩ := tx.par
  refine ks_codeAny_call_defAt (fd := ksFn name qual ps _ sc dV kV doc pm an (.ref cda) ct cc) (binds := [("self", .ref x), (f, v)]) hroom (X _ _ hf) rfl hlim (codeRec_of X hcd) rfl (hb _ _ _) tx.noc ?_ (fun h₁ hns hk₁ => ?_) tx.co tx.gen tx.kind
  · intro y hy
    (rcases List.mem_cons.mp hy with rfl | hy)
    · exact tx.kI
    · (rcases List.mem_cons.mp hy with rfl | hy)
      · exact tx.kF
      · cases hy
  have X1 : K.In h₁ := X.keeps hk₁
  obtain ⟨mb, hbl, hbb⟩ := Mo.blt
  have G1 : h₁.Ns mainGlobals mg := Mo.glob.keeps fun a o e => hk₁ a o (bk a o e)
  have B1 : h₁.Ns builtinsNs mb := hbl.keeps fun a o e => hk₁ a o (bk a o e)
  have hx1 := hk₁ _ _ hx
  obtain ⟨nmC, N', qnC, bs, bm, hdct, sn, sub, ab, col, dd, k0, k1, k2, k3, k5, hC, hT⟩ := excInit_of X1 T.exI
  obtain ⟨cd, hcl, hhd⟩ := any_some T.hd
  obtain ⟨pl, he⟩ := hev (ksEnv qual sc s.heap.objs.size fA (.ref cda) cc)
  have hint : interactive (ksEnv qual sc s.heap.objs.size fA (.ref cda) cc) = false := by unfold interactive; simp [ksEnv, envX, tx.kind]
  refine ks_wpAt_execs_cons (ks_wpAt_Expr_any (ks_wpAt_MethodCall (pl := pl) ?_ he) hint)
  refine ks_wpAt_super_base (env := ksEnv qual sc s.heap.objs.size fA (.ref cda) cc) tx.kS tx.kC rfl rfl (X1 _ _ hf) rfl har rfl (X1 _ _ hcode) rfl hvs pf.file pf.top ?_
  refine ks_loadName_global tx.kind tx.kS (loadGlobal_builtin (env := ksEnv qual sc s.heap.objs.size fA (.ref cda) cc) G1 hsu B1 ((hbb "super" (by decide)).trans (by decide +kernel)) ⟨rfl, ?_⟩)
  refine wpAny_loadName_free tx.kind tx.kC rfl ⟨_, X1 _ _ hcell, rfl⟩ ?_
  rw [hself]
  refine wpAny_loadName_local (v := .ref x) tx.kind tx.kI hns ?_ ?_
  · have e : (("self" : PySem.Str) == f) = false := by
      have z := tx.fs
      simp only [beq_eq_false_iff_ne] at z ⊢
      exact fun q => z q.symm
    show List.lookup ("self" : PySem.Str) [(f, v), ("self", Value.ref x)] = _
    simp [List.lookup, e]
  have oC : ∃ oD, h₁.get? cA = some oD ∧ ∃ cdD, oD.data = .cls cdD := ⟨_, hC, _, rfl⟩
  obtain ⟨oD, hD1, cdD, hD2⟩ := oC
  (refine ks_wpAny_isType_cls hD1 hD2 ⟨rfl, ?_⟩)
  refine ks_wpAny_call_super hD1 hD2 hx1 rfl (fun c e => by cases e) (looks_mroIn X1 T.mro) (fun h₂ eso k₂ => ?_)
  have X2 : K.In h₂ := X1.keeps k₂
  have I2 : InstAt h₂ x (excO cA t0) cA none := ⟨k₂ _ _ hx1, rfl, rfl, trivial⟩
  have hsup := T.sup
  unfold ks_superIn at hsup
  rw [hcl, Option.bind_some] at hsup
  refine kxs_getMethod bo.KF eso (looks_opaque X2 T.opq) (l₀ := cd.mro) (fun A Q E s k q => wpAny_bind ((looks_clsIn X2 hcl) A _ E s k (wpAny_pure q))) rfl X2 hsup (I2.type.andThen (looks_subIn X2 T.suB)) (ks_ne X2 I2 hcl) rfl ?_
  have k₃ : ∀ a o, h₂.get? a = some o → (h₂.push (kxs_mw b.ini x)).get? a = some o := fun a o e => Heap.get?_push_of_some _ e
  have hu3 : (h₂.push (kxs_mw b.ini x)).get? h₂.objs.size = some (kxs_mw b.ini x) := Heap.get?_push_at rfl rfl
  refine kxs_callWith (i := b.ini) (x := x) rfl ?_
  refine evalArgs_plain (spliced_cons (wpAny_Constant_str (k := j) (pos := p3) (spliced_nil ⟨hu3, ?_⟩)))
  have hx3 : (h₂.push (kxs_mw b.ini x)).get? x = some (excObj cA t0 none .none) := k₃ _ _ (k₂ _ _ hx1)
  have hC3 := k₃ _ _ (k₂ _ _ hC)
  (refine wpAny_call (codeAny_of_tree ?_))
  show wpAny _ _ (callAny (.ref h₂.objs.size) ⟨_, []⟩) _ _ _
  unfold callAny
  refine wpAny_bind (wpAny_load hu3 ?_)
  have w1 : (Value.type "method-wrapper" == Value.type "method" || Value.type "method-wrapper" == Value.type "builtin_function_or_method" || Value.type "method-wrapper" == Value.type "method-wrapper") = true := by decide
  simp only [kxs_mw, w1, if_true]
  (refine KFB.if_so (by decide) ?_)
  refine wpAny_bind (check_bound_init bo.FB.toExcCallFacts hC3 hx3 rfl ?_)
  (refine wpAny_bind (wpAny_pure (wpAny_pure ?_)))
  refine ⟨plainId_quiet bo.FB.init.plain _, codeAny_builtin bo.FB.initEntry ?_⟩
  refine exc_init_tree hx3 (by show 1 ≤ sizeLine; rw [sizeLine_eq]; omega) fun h₄ k₄ e₄ t₄ => ?_
  have nx : ∀ a o, h₁.get? a = some o → a ≠ x → h₄.get? a = some o := fun a o e n => k₄ a o n (k₃ _ _ (k₂ _ _ e))
  have X4 : K.In h₄ := fun a o e => nx a o (X1 a o e) (fun q => by rw [q, hnk] at e; cases e)
  have nL : s.heap.objs.size ≠ x := Nat.ne_of_gt (Heap.lt_size hx)
  have ns4 : h₄.Ns s.heap.objs.size _ := ns_keeps hns fun o e => nx _ o e nL
  have I4 : InstAt h₄ x (excObj cA h₂.objs.size.succ none .none) cA none := ⟨by simpa using e₄, rfl, rfl, trivial⟩
  show _root_.PySem.wpAt _ _ _ (execs _ _) _ _ _
  refine ks_wpAt_execs_cons (wpAt_of_wpAny (plainObj_wpAny_Assign_Attribute ?_))
  refine wpAny_Name (wpAny_loadName_local (v := v) tx.kind tx.kF ns4 ?_ ?_) tx.fd
  · show List.lookup f [(f, v), ("self", Value.ref x)] = _
    simp [List.lookup]
  refine wpAny_Name (wpAny_loadName_local (v := .ref x) tx.kind tx.kI ns4 ?_ ?_) rfl
  · have e : (("self" : PySem.Str) == f) = false := by
      have z := tx.fs
      simp only [beq_eq_false_iff_ne] at z ⊢
      exact fun q => z q.symm
    show List.lookup ("self" : PySem.Str) [(f, v), ("self", Value.ref x)] = _
    simp [List.lookup, e]
  refine set_plain X4 I4 T.sa (osa_openX bo.SF X4 I4 T.exO T.tk fun bb => ?_)
  refine store_first X4 (fv := #[.ref h₂.objs.size.succ, .none, .none, .none, .bool false, .none]) (by simpa using e₄) hcl hhd fun h₅ tk₅ dx k₅ d1 d2 x5 n5 => ?_
  show _root_.PySem.wpAt _ _ _ (execs _ _) _ _ _
  refine wpAt_of_wpAny (wpAny_execs_nil ?_)
  exact hq h₅ tk₅ dx _ ⟨fun a o n e => k₅ a o n (nx a o (hk₁ a o e) n), x5, Nat.le_of_lt (Nat.lt_of_lt_of_le ns4.lt d1), d2, n5⟩
/-- a made exception -/
structure Got (f : PySem.Str) (h h' : Heap) (e cA d : Addr) (v : Value) : Prop where
  keep : ∀ a o, h.get? a = some o → h'.get? a = some o
  new : h.objs.size ≤ e
  obj : ∃ ob vs, h'.get? e = some ob ∧ ob.cls = .ref cA ∧ ob.dict = some d ∧ ob.data = .fields vs ∧ vs[1]? = some .none
  dbig : h.objs.size ≤ d
  dne : d ≠ e
  ns : h'.Ns1 d (fun y => if y = f then some v else none)
theorem made (T : Fx K file f b cA fA) (bo : b.Ok) (pf : Pf prog file) (hsu : mg "super" = none) (Mo : L2.Mod K mg base) (bk : ∀ a o, base.get? a = some o → s.heap.get? a = some o) {v : Value}
    (hlim : s.heap.NoLimit) (hroom : A.depth + 1 < recursionLimit) (hq : ∀ h' tk e d, Got f s.heap h' e cA d v → R (.ok (.ret (.ref e))) { s with heap := h', toks := tk }) :
    codeAny (model prog w) A (.call (.ref cA) ⟨[v], []⟩) R s := by
  have X : K.In s.heap := fun a o e => bk a o (Mo.kin a o e)
  obtain ⟨nmC, N', qnC, bs, bm, hdct, sn, sub, ab, col, dd, k0, k1, k2, k3, k5, hC, hT⟩ := excInit_of X T.exI
  obtain ⟨hh, g, dr, tk, os⟩ := s
  have k : ∀ a o, hh.get? a = some o → ((hh.push (kdv_tup [v])).push (excO cA hh.objs.size)).get? a = some o := fun a o e => Heap.get?_push_of_some _ (Heap.get?_push_of_some _ e)
  have ge : ((hh.push (kdv_tup [v])).push (excO cA hh.objs.size)).get? (hh.objs.size + 1) = some (excO cA hh.objs.size) := by heap_get
  have hnk : K.lookup (hh.objs.size + 1) = none := by
    cases e : K.lookup (hh.objs.size + 1) with
    | none => rfl
    | some o =>
      have z : hh.get? (hh.objs.size + 1) = some o := X _ _ e
      (exact absurd (Nat.lt_of_succ_lt (Heap.lt_size z)) (Nat.lt_irrefl _))
  refine call_own bo.FB hT hC (looks_findIn X T.iC) (fun self => bind_fn X self T.tI) (by show 1 ≤ sizeLine; rw [sizeLine_eq]; omega) ?_
  refine init_runs (s := ⟨(hh.push (kdv_tup [v])).push (excO cA hh.objs.size), g, dr, tk, os⟩) T bo pf hsu Mo (fun a o e => k a o (bk a o e)) (hlim.keeps k) ge hnk hroom ?_
  intro h' tk' dx t1 l
  have old : ∀ a o, hh.get? a = some o → h'.get? a = some o := fun a o e => l.keep a o (Nat.ne_of_lt (Nat.lt_succ_of_lt (Heap.lt_size e))) (k a o e)
  have z : hh.objs.size + 1 + 1 ≤ dx := by
    have q := l.dbig
    rw [Heap.size_push, Heap.size_push] at q
    exact q
  exact ⟨rfl, hq h' tk' (hh.objs.size + 1) dx ⟨old, Nat.le_succ _, ⟨_, _, l.obj, rfl, rfl, rfl, rfl⟩, (show hh.objs.size ≤ dx by omega), l.dne, l.ns⟩⟩
end
end DX
namespace DL
open PySem L2 PyProof.Rows PySem.Spec
theorem relO_one {v : V} {u : Value} {f : Str} (r : RelV v u) (g : Str) : RelO (List.lookup g [(f, v)]) (if g = f then some u else none) := by
  by_cases h : g = f
  · subst h
    rw [if_pos rfl]
    have q : List.lookup g [(g, v)] = some v := by simp [List.lookup]
    rw [q]; exact r
  · rw [if_neg h]
    have q : (g == f) = false := by simpa using h
    have q2 : List.lookup g [(f, v)] = none := by simp [List.lookup, q]
    rw [q2]; trivial
section
variable {X : Cx} {W : WX} {file f x : Str} {b : DX.Bx} {fI : Addr}
/-- x(a) -/
theorem pmk_sup {a : Expr} {ta : TA} {p pos : Pos} {k : Nat} (T : DX.Fx X.K file f b (gadr X.K x) fI) (bo : b.Ok) (pf : DX.Pf X.prog file) (hsu : X.mg "super" = none) (hm : X.mg x = some (.ref (gadr X.K x))) (hr : Room k X.A) (ha : PA X [a] ta) (hg : Gl X x) (hdb : (x == ("__debug__" : Str)) = false)
    (he : starEach (a :: []) X.env = (false, eval a X.env) :: starEach [] X.env) (hpl : (backTo pos (starEach [] X.env)).any (·.1) = false) :
    PMk X (.Call (.Name x p) [a] [] pos) (fun σ H Q => ta σ H fun vs H1 => ∃ v, vs = [v] ∧ ∀ d, H1 d = none → Q (.ref (gadr X.K x)) (some d) (upd H1 d (.xd [(f, v)]))) := by
  intro pins s σ H Q I h
  (refine wpAny_Call_Name_kw (ld_glob I hg hm ?_ hdb))
  (refine PySem.W.callWith_K (h₀ := X.base) I.ok.mod.kin T.kC (thn (ha.run pos pins s σ H _ I h) fun us s1 hh => ?_) he hpl)
  (obtain ⟨vs, H1, I1, r1, v, ev, q1⟩ := hh)
  subst ev
  refine ⟨I1.kIn, ?_⟩
  cases r1 with
  | cons rv rn =>
    rename_i v' us'
    cases rn
    show wpAny _ _ (call (.ref (gadr X.K x)) [v']) _ _ _
    have hlim := I1.nolimit
    have bk := I1.bk
    have Mo := I1.mod
    (obtain ⟨hp, g, dr, tk, os⟩ := s1)
    refine wpAny_call (DX.made T bo pf hsu Mo bk hlim (by have := hr.dp; omega) fun h' tk' e d M => ?_)
    show (MkP X pins σ Q (.ref e) ⟨h', g, dr, tk', os⟩)
    (obtain ⟨oe, fv, hoe, hc, hd, hdat, h1⟩ := M.obj)
    have hns := M.ns
    (obtain ⟨G', g1, g2⟩ := restrict h' fun b => decide (b ≠ e))
    (have gk : ∀ b, b ≠ e → G'.get? b = h'.get? b := fun b hb => g1 b (decide_eq_true hb))
    (have ge : G'.get? e = none := g2 e (by simp))
    (have old : ∀ b o, hp.get? b = some o → G'.get? b = some o := fun b o q => (gk b (Nat.ne_of_lt (Nat.lt_of_lt_of_le (Heap.lt_size q) M.new))).trans (M.keep b o q))
    have ob : ObjOk X.prog X.w (upd H1 d (.xd [(f, v)])) G' d (.xd [(f, v)]) := ⟨_, hns.at (fun o q => (gk d M.dne).trans q), fun f => relO_one rv f⟩
    have J : Inv X pins σ (upd H1 d (.xd [(f, v)])) ⟨G', g, dr, tk', os⟩ := I1.laid (t' := tk') old M.dbig ob
    refine ⟨e, oe, fv, ⟨G', g, dr, tk', os⟩, _, .ref (gadr X.K x), some d, rfl, J, fun b o q => ?_, ge, hoe, ⟨hc, hd⟩, hdat, h1, ?_, rfl, I1.bare, raises_own T.exC T.tyC, q1 d (I1.hok.fresh M.dbig)⟩
    · by_cases hb : b = e
      · (have q' : G'.get? b = some o := q)
        rw [hb, ge] at q'; cases q'
      · (exact (gk b hb).symm.trans q)
    · rw [upd_ne (Ne.symm M.dne)]
      exact I1.hok.fresh M.new
/-- raise x(a), x keeps a in its field f -/
def sRaise (x f : Str) (fa : Ev) : Sx := fun env M => (fa env M).bindS env fun d M => .ex ⟨x, [(f, d)]⟩ env M
theorem ds_raise {a : Expr} {fa : Ev} {p pos pos2 : Pos} {k : Nat} (T : DX.Fx X.K file f b (gadr X.K x) fI) (bo : b.Ok) (pf : DX.Pf X.prog file) (hsu : X.mg "super" = none) (hm : X.mg x = some (.ref (gadr X.K x))) (hc : X.calm = true) (hr : Room k X.A) (tk : Takes X W) (ha : DE X W a fa) (hg : Gl X x := by rfl) (hdb : (x == ("__debug__" : Str)) = false := by decide)
    (hst : starEach (a :: []) X.env = (false, eval a X.env) :: starEach [] X.env := by rfl) (hpl : (backTo pos (starEach [] X.env)).any (·.1) = false := by rfl) :
    DS X W (.Raise (some (.Call (.Name x p) [a] [] pos)) none pos2) (sRaise x f fa) := by
  obtain ⟨ta, pa, sa⟩ := ha
  refine ⟨_, ps_raise hc tk (pmk_sup T bo pf hsu hm hr (pa_cons pa pa_nil hst) hg hdb hst hpl), fun φ ρ env M σ H E e m h => ?_⟩
  refine sa φ ρ env M σ H _ e m (Post.bindS e h fun d M1 ρ1 H1 v a1 b1 c1 h1 => ?_)
  refine ⟨v, rfl, fun dx hd => ?_⟩
  exact h1 ρ1 _ σ dx (.new hd) (b1.new hd) ((e.ext a1).ext (.new hd)) ⟨b1.fresh hd, _, upd_same, .cons (c1.ext (.new hd)) .nil⟩
end
end DL

/-! try: several clauses, each with a name or without -/
namespace DL
open PySem L2 PyProof.Rows PySem.Spec
abbrev Sui := Addr → Value → Option Addr → TS
/-- a clause's ends: its name is gone -/
def endsO (o : Option Nat) (D : Ends) : Ends := match o with
  | none => D
  | some i => { nx := fun σ' H' => D.nx (σ'.set i none) H', rt := D.rt, bk := fun σ' H' => D.bk (σ'.set i none) H', ct := fun σ' H' => D.ct (σ'.set i none) H' }
def slotO (o : Option Nat) (a : Addr) (σ : L2.St) : L2.St := match o with
  | none => σ
  | some i => σ.set i (some (.ref a))
/-- what the clauses want, one after the other -/
def wCl (K : PySem.W.Frag) (Wo : WX) (D : Ends) : List (Value × Option Nat × Sui) → WX
  | [] => Wo
  | (c, o, ts) :: r => fun cls d σ H => ∃ b, PySem.W.exmOne K cls c = some b ∧ (b = true → ∀ a, H a = none → ts a cls d (endsO o D) (slotO o a σ) H) ∧ (b = false → wCl K Wo D r cls d σ H)
inductive ClOk (X : Cx) : List ExceptHandler → List (Value × Option Nat × Sui) → Prop
  | nil : ClOk X [] []
  | one {x : Str} {c : Value} {ts : Sui} {b₀ : Stmt} {suite : List Stmt} {np p : Pos} {hds : List ExceptHandler} {l : List (Value × Option Nat × Sui)} (hc : Names X x c)
      (hsu : ∀ (a : Addr) (oe : Obj) (cls : Value) (d : Option Addr) (pz : List (Addr × Obj)), Zc cls d oe → (∃ vs, oe.data = .fields vs) → PSs (X.suite a ((a, oe) :: pz)) (b₀ :: suite) (ts a cls d)) (r : ClOk X hds l) :
      ClOk X (.ExceptHandler (some (.Name x np)) none (b₀ :: suite) p :: hds) ((c, none, ts) :: l)
  | as {x n : Str} {i : Nat} {c : Value} {ts : Sui} {b₀ : Stmt} {suite : List Stmt} {np p : Pos} {hds : List ExceptHandler} {l : List (Value × Option Nat × Sui)} (hc : Names X x c) (hi : X.N[i]? = some n) (hl : X.env.kindOf n = some .local)
      (hsu : ∀ (a : Addr) (oe : Obj) (cls : Value) (d : Option Addr) (pz : List (Addr × Obj)), Zc cls d oe → (∃ vs, oe.data = .fields vs) → PSs (X.suite a ((a, oe) :: pz)) (b₀ :: suite) (ts a cls d)) (r : ClOk X hds l) :
      ClOk X (.ExceptHandler (some (.Name x np)) (some n) (b₀ :: suite) p :: hds) ((c, some i, ts) :: l)
section
variable {X : Cx} {body : List Stmt} {h₀ : ExceptHandler} {hds : List ExceptHandler} {l : List (Value × Option Nat × Sui)} {pos : Pos} {tb : WX → TS} {Wo : WX}
theorem ps_try_cl (hs : X.stack = X.env :: X.outer) (hf : X.env.frame = some X.env.locals) (hN : X.N.Nodup) (tk : Takes X Wo)
    (hb : ∀ (W : WX) (pz : List (Addr × Obj)) (xe : Value → Shared → Prop), Takes (X.tr pz xe) W → PassesOwn (model X.prog X.w) X.A X.env xe → PSs (X.tr pz xe) body (tb W))
    (hh : ClOk X (h₀ :: hds) l) : PS X (.Try body (h₀ :: hds) [] [] pos) (fun D σ H => tb (wCl X.K Wo D l) D σ H) := by
  (refine ⟨fun pins s σ H D I h => ?_⟩)
  have ok := I.ok
  (have hfr : X.A.frames = some (X.env :: X.outer) := by rw [ok.frames, hs])
  refine wpAny_Try_except ?_
  have hrun := hb (wCl X.K Wo D l) (X.pn ++ pins) (fun e s₁ => wpAny (model X.prog X.w) X.A (noteFrame e X.env) (fun _ s₂ => wpAny (model X.prog X.w) X.A (setFlight e none) (fun _ s₃ =>
    wpAny (model X.prog X.w) X.A (handleBy e X.env (h₀ :: hds)) (SP X pins D) X.xe s₃) X.xe s₂) X.xe s₁)
  refine wpAny_mono ((hrun (fun u s' xx => ?_) PassesOwn.looking).run [] s σ H D (I.toTry _) h) (fun fl s1 hsp => ?_) (fun e s1 he => he)
  · obtain ⟨a, B, sI, pins', σ', H', cls, d, rfl, J', nb, up, sky, na, os, ag, w⟩ := xx
    (have J : Inv X pins σ' H' sI := J'.ofTry ok)
    (have sky' : Sky B (X.env :: X.outer) a (Zc cls d) X.env.locals s'.heap := by rw [← hs]; exact sky)
    show (wpAny (model X.prog X.w) X.A (noteFrame (.ref a) X.env) _ _ _)
    refine Sky.land Zc.steady hfr hf sky' fun h7 fl3 up3 => ?_
    have J3 : Inv X pins σ' H' { s' with heap := h7 } := J.landed nb fl3.1 (up.trans up3) os ag
    (obtain ⟨oe3, vs3, he3, hz3, hd3⟩ := fl3.there)
    have nfr : a ∉ frs (X.env :: X.outer) := fun hm => by
      obtain ⟨_, o', e', hnf⟩ := fl3.2.2.1.mem hm
      rw [he3] at e'; cases e'
      exact hnf _ hd3
    (have nL : a ≠ X.env.locals := fun z => nfr (List.mem_filterMap.mpr ⟨X.env, List.mem_cons_self, by rw [hf, z]⟩))
    have nFr : a ∉ X.fs := fun hm => by
      (obtain ⟨e, he, q⟩ := List.mem_filterMap.mp hm)
      (exact nfr (List.mem_filterMap.mpr ⟨e, List.mem_cons_of_mem _ he, q⟩))
    have S3 := J3.suite he3 hd3 na nL nFr
    have LT : PySem.W.Looks (model X.prog X.w) h7 (typeOf (.ref a)) cls := fun A Q E s k q => wpAny_typeOf_ref (k _ _ he3) (by rw [hz3.1]; exact q)
    have named : ∀ {x : Str} {c : Value} {np : Pos} {Q : Value → Shared → Prop} {E : Value → Shared → Prop}, Names X x c → Q c { s' with heap := h7 } → wpAny (model X.prog X.w) (X.A.mark (some (.ref a))) (eval (.Name x np) X.env) Q E { s' with heap := h7 } := fun {x c np Q E} hc q => by
      (obtain ⟨hg, hdbg, hm | ⟨hm, hv, hnn⟩⟩ := hc)
      · (exact ld_glob (X := X.suite a ((a, oe3) :: (X.pn ++ pins))) S3 hg hm q hdbg)
      · (exact ld_blt (X := X.suite a ((a, oe3) :: (X.pn ++ pins))) S3 hg hm hv q hnn hdbg)
    have go : ∀ {hw' : List ExceptHandler} {l' : List (Value × Option Nat × Sui)}, ClOk X hw' l' → wCl X.K Wo D l' cls d σ' H' →
        wpAny (model X.prog X.w) X.A (handleBy (.ref a) X.env hw') (SP X pins D) X.xe { s' with heap := h7 } := by
      intro hw' l' hk
      induction hk with
      | nil =>
        intro w
        refine wpAny_handleBy_nil ?_
        (obtain ⟨k1, k2, k3, oe, vs, T, oT, ts', he, hz, hd, h1, hr⟩ := id fl3)
        unfold PySem.passOn
        (refine wpAny_bind (wpAny_field he hd h1 ?_))
        (rw [if_neg (show ¬ ((Value.ref T == Value.none) = true) from by simp)])
        have gon : wpAny (model X.prog X.w) X.A (setFlight (.ref a) X.env.frame) (fun _ s4 => wpAny (model X.prog X.w) X.A (throw (.ref a) : Sem Flow) (SP X pins D) X.xe s4) X.xe { s' with heap := h7 } := by
          rw [hf]
          (refine HandSPX.setFlight_upZ fl3 fun h4 hh4 up4 => wpAny_throw (tk _ _ ?_))
          (exact ⟨a, B, sI, pins, σ', H', cls, d, rfl, J, nb, (up.trans up3).trans up4, .inr (.inr (by rw [hs]; exact hh4)), na, os, ag, w⟩)
        first
          | exact wpAny_bind (wpAny_pure (wpAny_bind gon))
          | exact wpAny_bind gon
      | @one x c ts b₀ suite np p hd9 l2 hc hsu r ih =>
        intro w
        (obtain ⟨b, hb1, hyes, hno⟩ := w)
        (refine wpAny_handleBy_cons (codeAny_handlers_test ?_) (by intro q; cases q))
        (have LM := PySem.W.exm_one (M := model X.prog X.w) (J3.kIn) LT hb1)
        refine named hc (LM.here ?_)
        cases b with
        | true =>
          (refine codeAny_handlers_suite ?_)
          (refine HandSPX.lands_againZ fl3 fun h4 fl4 up4 => ?_)
          (have J4 : Inv X pins σ' H' { s' with heap := h4 } := J.landed nb fl4.1 ((up.trans up3).trans up4) os ag)
          (obtain ⟨oe4, vs4, he4, hz4, hd4⟩ := fl4.there)
          have S4 := J4.suite he4 hd4 na nL nFr
          refine wpAny_mono ((hsu a oe4 cls d (X.pn ++ pins) hz4 ⟨_, hd4⟩).run [] _ _ H' _ S4 (hyes rfl a na)) (fun g s6 hsp => ?_) (fun _ _ z => False.elim z)
          cases g with
          | ret u =>
            (obtain ⟨v6, σ6, H6, S6, r6, q6⟩ := hsp)
            (exact ⟨_, _, _, S6.unsuite ok, r6, q6⟩)
          | next | brk | cont =>
            (obtain ⟨σ6, H6, S6, q6⟩ := hsp)
            (exact ⟨_, _, S6.unsuite ok, q6⟩)
        | false =>
          show (wpAny _ X.A (handleBy (.ref a) X.env hd9) _ _ _)
          exact ih (hno rfl)
      | @as x n i c ts b₀ suite np p hd9 l2 hc hi hln hsu r ih =>
        intro w
        (obtain ⟨b, hb1, hyes, hno⟩ := w)
        (have hloc : Loc X.env.scope n := .inl hln)
        (refine wpAny_handleBy_cons (codeAny_handlers_test ?_) (by intro q; cases q))
        (have LM := PySem.W.exm_one (M := model X.prog X.w) (J3.kIn) LT hb1)
        refine named hc (LM.here ?_)
        cases b with
        | true =>
          (refine codeAny_handlers_suite_as ?_)
          (refine HandSPX.lands_againZ fl3 fun h4 fl4 up4 => ?_)
          (have J4 : Inv X pins σ' H' { s' with heap := h4 } := J.landed nb fl4.1 ((up.trans up3).trans up4) os ag)
          (obtain ⟨oe4, vs4, he4, hz4, hd4⟩ := fl4.there)
          have S4 := J4.suite he4 hd4 na nL nFr
          (refine store_ok (X := X.suite a ((a, oe4) :: (X.pn ++ pins))) (v := .ref a) S4 hN hi hloc rfl (fun s5 S5 => ?_) (.inr hln))
          refine wpAny_mono ((hsu a oe4 cls d (X.pn ++ pins) hz4 ⟨_, hd4⟩).run [] s5 _ H' _ S5 (hyes rfl a na)) (fun g s6 hsp => ?_) (fun _ _ z => False.elim z)
          have gone : ∀ {σ6 : L2.St} {H6 : Hp} {Q : Shared → Prop}, Inv (X.suite a ((a, oe4) :: (X.pn ++ pins))) [] σ6 H6 s6 → (∀ s7, Inv X pins (σ6.set i none) H6 s7 → Q s7) →
              wpAny (model X.prog X.w) X.A (do bindName X.env n .none; unbindBehindTheSuite X.env n p) (fun _ s7 => Q s7) X.xe s6 := fun {σ6 H6 Q} S6 hq => gone_ok (S6.unsuite ok) hN hi hln hq
          cases g with
          | ret u =>
            (obtain ⟨v6, σ6, H6, S6, r6, q6⟩ := hsp)
            exact gone S6 fun s7 J7 => ⟨_, _, _, J7, r6, q6⟩
          | next | brk | cont =>
            (obtain ⟨σ6, H6, S6, q6⟩ := hsp)
            exact gone S6 fun s7 J7 => ⟨_, _, J7, q6⟩
        | false =>
          show (wpAny _ X.A (handleBy (.ref a) X.env hd9) _ _ _)
          exact ih (hno rfl)
    exact go hh w
  · cases fl with
    | next =>
      obtain ⟨σ', H', J', q⟩ := hsp
      (exact wpAny_execs_nil ⟨σ', H', J'.ofTry ok, q⟩)
    | ret u =>
      (obtain ⟨v, σ', H', J', r, q⟩ := hsp)
      (exact ⟨v, σ', H', J'.ofTry ok, r, q⟩)
    | brk | cont =>
      obtain ⟨σ', H', J', q⟩ := hsp
      (exact ⟨σ', H', J'.ofTry ok, q⟩)
end
end DL

namespace DL
open PySem L2 PyProof.Rows PySem.Spec
/-- an except suite: no exception leaves it -/
abbrev Wn : WX := fun _ _ _ _ => False
theorem DB.pss {X : Cx} {W : WX} {st : List Stmt} {f : Sx} (h : DB X W st f) : PSs X st (fun D σ H => ∃ φ ρ env M, RE ⟨X.K, φ⟩ ρ H env σ ∧ MOk ⟨X.K, φ⟩ ρ M H ∧ PostS ⟨X.K, φ⟩ W ρ H (f env M) D) := by
  obtain ⟨t, p, s⟩ := h
  exact ⟨fun pins s1 σ H D I ⟨φ, ρ, env, M, e, m, q⟩ => p.run pins s1 σ H D I (s φ ρ env M σ H D e m q)⟩
/-- what a suite knows of the exception: its class, its fields, the slot that bears it -/
structure Cgt (K : Kx) (C : Str) (o : Option Nat) (a : Addr) (cls : Value) (d : Option Addr) (x : Exn) (ρ : List Addr) (σ : L2.St) (H : Hp) : Prop where
  c : x.cls = C
  cls : cls = .ref (gadr K.K C)
  d : ∃ dx, d = some dx ∧ ExR K ρ H x dx
  s : ∀ i, o = some i → i < σ.length → σ[i]? = some (some (.ref a))
theorem ExR.ext {K : Kx} {ρ ρ' : List Addr} {H H' : Hp} {x : Exn} {dx : Addr} (e : Ext ρ H ρ' H') (h : ExR K ρ H x dx) : ExR K ρ' H' x dx := by
  obtain ⟨n, gs, hd, r⟩ := h
  exact ⟨⟨e.nin hd n.1, n.2⟩, gs, e.keep _ _ hd n.1, r.ext e⟩
theorem Cgt.ext {K : Kx} {C : Str} {o : Option Nat} {a : Addr} {cls : Value} {d : Option Addr} {x : Exn} {ρ ρ' : List Addr} {σ : L2.St} {H H' : Hp} (e : Ext ρ H ρ' H') (h : Cgt K C o a cls d x ρ σ H) : Cgt K C o a cls d x ρ' σ H' := by
  obtain ⟨dx, hd, z⟩ := h.d
  exact ⟨h.c, h.cls, ⟨dx, hd, z.ext e⟩, h.s⟩
/-- the suite's text computes f of the exception -/
def SuiD (X : Cx) (C : Str) (o : Option Nat) (st : List Stmt) (f : Exn → Sx) : Prop := ∀ (a : Addr) (oe : Obj) (cls : Value) (d : Option Addr) (pn : List (Addr × Obj)), Zc cls d oe → (∃ vs, oe.data = .fields vs) →
  ∃ t, PSs (X.suite a ((a, oe) :: pn)) st t ∧ ∀ x φ ρ env M σ H E, Cgt ⟨X.K, φ⟩ C o a cls d x ρ σ H → RE ⟨X.K, φ⟩ ρ H env σ → MOk ⟨X.K, φ⟩ ρ M H → PostS ⟨X.K, φ⟩ Wn ρ H (f x env M) E → t E σ H
def tSui (K : PySem.W.Frag) (C : Str) (o : Option Nat) (f : Exn → Sx) : Sui := fun a cls d E σ H => ∃ x φ ρ env M, Cgt ⟨K, φ⟩ C o a cls d x ρ σ H ∧ RE ⟨K, φ⟩ ρ H env σ ∧ MOk ⟨K, φ⟩ ρ M H ∧ PostS ⟨K, φ⟩ Wn ρ H (f x env M) E
theorem SuiD.pss {X : Cx} {C : Str} {o : Option Nat} {st : List Stmt} {f : Exn → Sx} (h : SuiD X C o st f) (a : Addr) (oe : Obj) (cls : Value) (d : Option Addr) (pn : List (Addr × Obj)) (z : Zc cls d oe) (hf : ∃ vs, oe.data = .fields vs) :
    PSs (X.suite a ((a, oe) :: pn)) st (tSui X.K C o f a cls d) := by
  obtain ⟨t, p, s⟩ := h a oe cls d pn z hf
  exact ⟨fun pins s1 σ H D I ⟨x, φ, ρ, env, M, c, e, m, q⟩ => p.run pins s1 σ H D I (s x φ ρ env M σ H D c e m q)⟩
/-- a clause -/
structure Cla where
  cls : Str
  slot : Option Nat
  f : Exn → Sx
def Cla.tri (K : PySem.W.Frag) (c : Cla) : Value × Option Nat × Sui := (.ref (gadr K c.cls), c.slot, tSui K c.cls c.slot c.f)
def endO (o : Option Nat) (r : OutS) : OutS := match o with
  | none => r
  | some i => match r with
    | .nx e M => .nx (e.set i none) M
    | .bk e M => .bk (e.set i none) M
    | .ct e M => .ct (e.set i none) M
    | r => r
def wipO (o : Option Nat) (e : Env) : Env := match o with
  | none => e
  | some i => e.set i none
def noX : OutS → OutS
  | .ex _ _ _ => .st
  | r => r
def sCl : List Cla → Exn → Sx
  | [], x, e, M => .ex x e M
  | c :: cs, x, e, M => if c.cls = x.cls then endO c.slot (noX (c.f x (wipO c.slot e) M)) else sCl cs x e M
def sTry (xs : List Str) (fb : Sx) (cs : List Cla) : Sx := fun env M => match fb env M with
  | .ex x e M' => if x.cls ∈ xs then sCl cs x e M' else .st
  | r => r
section
variable {X : Cx} {W : WX} {x n : Str} {o : Option Nat} {np p pos : Pos} {b₀ : Stmt} {suite body : List Stmt} {hds : List ExceptHandler} {cs : List Cla} {f : Exn → Sx} {fb : Sx} {h₀ : ExceptHandler} {c : Cla}
theorem cl_nil : ClOk X [] (List.map (Cla.tri X.K) []) := .nil
theorem cl_as {i : Nat} (hm : X.mg x = some (.ref (gadr X.K x))) (hsu : SuiD X x (some i) (b₀ :: suite) f) (r : ClOk X hds (cs.map (Cla.tri X.K))) (hi : X.N[i]? = some n := by rfl) (hl : X.env.kindOf n = some .local := by rfl) (hg : Gl X x := by rfl) (hd : (x == ("__debug__" : Str)) = false := by decide) :
    ClOk X (.ExceptHandler (some (.Name x np)) (some n) (b₀ :: suite) p :: hds) (List.map (Cla.tri X.K) (⟨x, some i, f⟩ :: cs)) := .as ⟨hg, hd, .inl hm⟩ hi hl hsu.pss r
theorem end_ok {K : Kx} {ρ : List Addr} {H : Hp} {r : OutS} {D : Ends} (h : PostS K W ρ H (endO o (noX r)) D) : PostS K Wn ρ H r (endsO o D) := by
  cases r with
  | st => cases o <;> exact h.elim
  | ex x e M => cases o <;> exact h.elim
  | rt d M => cases o <;> exact h
  | nx e M =>
    cases o with
    | none => exact h
    | some i => exact fun ρ' H' σ' a b c => h ρ' H' _ a b c.wipe1
  | bk e M =>
    cases o with
    | none => exact h
    | some i => exact fun ρ' H' σ' a b c => h ρ' H' _ a b c.wipe1
  | ct e M =>
    cases o with
    | none => exact h
    | some i => exact fun ρ' H' σ' a b c => h ρ' H' _ a b c.wipe1
theorem RE.wipO {K : Kx} {ρ : List Addr} {H : Hp} {env : Env} {σ : L2.St} (h : RE K ρ H env σ) (o : Option Nat) (a : Addr) : RE K ρ H (wipO o env) (slotO o a σ) := by
  cases o with
  | none => exact h
  | some i => exact h.wipe1
theorem sCl_ok {φ : List Addr} {D : Ends} {y : Exn} {e : Env} {M : Mem} : ∀ (cs : List Cla), (∀ c ∈ cs, PySem.W.exmOne X.K (.ref (gadr X.K y.cls)) (.ref (gadr X.K c.cls)) = some (decide (c.cls = y.cls))) → ∀ (ρ : List Addr) (H : Hp) (σ : L2.St) (dx : Addr), MOk ⟨X.K, φ⟩ ρ M H → RE ⟨X.K, φ⟩ ρ H e σ → ExR ⟨X.K, φ⟩ ρ H y dx →
    PostS ⟨X.K, φ⟩ W ρ H (sCl cs y e M) D → wCl X.K W D (cs.map (Cla.tri X.K)) (.ref (gadr X.K y.cls)) (some dx) σ H
  | [], _, ρ, H, σ, dx, m, re, ex, h => h ρ H σ dx .refl m re ex
  | c :: cs, hx, ρ, H, σ, dx, m, re, ex, h => by
    refine ⟨_, hx c List.mem_cons_self, fun hb a ha => ?_, fun hb => ?_⟩
    · have q : c.cls = y.cls := of_decide_eq_true hb
      unfold sCl at h
      rw [if_pos q] at h
      refine ⟨y, φ, ρ, DL.wipO c.slot e, M, ⟨q.symm, by rw [q], ⟨dx, rfl, ex⟩, fun i hi l => ?_⟩, re.wipO c.slot a, m, end_ok h⟩
      rw [hi] at l ⊢
      exact List.getElem?_set_self (by simpa [slotO] using l)
    · have q : ¬ c.cls = y.cls := of_decide_eq_false hb
      unfold sCl at h
      rw [if_neg q] at h
      exact sCl_ok cs (fun c hc => hx c (List.mem_cons_of_mem _ hc)) ρ H σ dx m re ex h
theorem ds_try {xs : List Str} (hN : X.N.Nodup) (tk : Takes X W) (hx : ∀ y ∈ xs, ∀ z ∈ c :: cs, PySem.W.exmOne X.K (.ref (gadr X.K y)) (.ref (gadr X.K z.cls)) = some (decide (z.cls = y)))
    (hb : ∀ (W : WX) (pn : List (Addr × Obj)) (xe : Value → Shared → Prop), Takes (X.tr pn xe) W → DB (X.tr pn xe) W body fb) (hh : ClOk X (h₀ :: hds) (List.map (Cla.tri X.K) (c :: cs))) (hs : X.stack = X.env :: X.outer := by rfl) (hf : X.env.frame = some X.env.locals := by rfl) :
    DS X W (.Try body (h₀ :: hds) [] [] pos) (sTry xs fb (c :: cs)) := by
  refine ⟨_, ps_try_cl (tb := fun W D σ H => ∃ φ ρ env M, RE ⟨X.K, φ⟩ ρ H env σ ∧ MOk ⟨X.K, φ⟩ ρ M H ∧ PostS ⟨X.K, φ⟩ W ρ H (fb env M) D) hs hf hN tk (fun W pn xe tk' _ => (hb W pn xe tk').pss) hh, fun φ ρ env M σ H E e m h => ?_⟩
  refine ⟨φ, ρ, env, M, e, m, ?_⟩
  unfold sTry at h
  cases q : fb env M with
  | st => rw [q] at h; exact h.elim
  | nx e2 M2 => rw [q] at h; exact h
  | rt e2 M2 => rw [q] at h; exact h
  | bk e2 M2 => rw [q] at h; exact h
  | ct e2 M2 => rw [q] at h; exact h
  | ex y e2 M2 =>
    rw [q] at h
    simp only at h
    intro ρ' H' σ' dx a1 b1 c1 d1
    by_cases hy : y.cls ∈ xs
    · rw [if_pos hy] at h
      exact sCl_ok (c :: cs) (hx y.cls hy) ρ' H' σ' dx b1 c1 d1 (PostS.ext a1 h)
    · rw [if_neg hy] at h
      exact h.elim
end

/-! ### suites -/
/-- an expression in a suite -/
def DEx (X : Cx) (C : Str) (o : Option Nat) (e : Expr) (f : Exn → Ev) : Prop := ∀ (a : Addr) (oe : Obj) (cls : Value) (d : Option Addr) (pn : List (Addr × Obj)), Zc cls d oe → (∃ vs, oe.data = .fields vs) →
  ∃ t, PE (X.suite a ((a, oe) :: pn)) e t ∧ ∀ x φ ρ env M σ H Q, Cgt ⟨X.K, φ⟩ C o a cls d x ρ σ H → RE ⟨X.K, φ⟩ ρ H env σ → MOk ⟨X.K, φ⟩ ρ M H → Post ⟨X.K, φ⟩ Wn ρ σ H (f x env M) Q → t σ H Q
def DAx (X : Cx) (C : Str) (o : Option Nat) (es : List Expr) (f : Exn → EvL) : Prop := (∀ x env M ds M', f x env M = .ok ds M' → ds.length = es.length) ∧ ∀ (a : Addr) (oe : Obj) (cls : Value) (d : Option Addr) (pn : List (Addr × Obj)), Zc cls d oe → (∃ vs, oe.data = .fields vs) →
  ∃ t, PA (X.suite a ((a, oe) :: pn)) es t ∧ ∀ x φ ρ env M σ H Q, Cgt ⟨X.K, φ⟩ C o a cls d x ρ σ H → RE ⟨X.K, φ⟩ ρ H env σ → MOk ⟨X.K, φ⟩ ρ M H → PostL ⟨X.K, φ⟩ Wn ρ σ H (f x env M) Q → t σ H Q
/-- e.f -/
def xFld (f : Str) (x : Exn) : Ev := fun _ M => match x.fs.lookup f with
  | some d => .ok d M
  | none => .st
theorem RFs.lookup {K : Kx} {ρ : List Addr} {H : Hp} {f : Str} {d : D} : ∀ {fs : List (Str × D)} {gs : List (Str × V)}, RFs K ρ H fs gs → fs.lookup f = some d → ∃ v, gs.lookup f = some v ∧ RD K ρ H d v
  | _, _, .nil, e => by cases e
  | _, _, @RFs.cons _ _ _ g d' fs v vs h t, e => by
    by_cases q : (f == g) = true
    · rw [List.lookup_cons, q] at e
      cases e
      exact ⟨v, by rw [List.lookup_cons, q], h⟩
    · have q : (f == g) = false := by simpa using q
      rw [List.lookup_cons, q] at e
      rw [List.lookup_cons, q]
      exact RFs.lookup t e
section
variable {X : Cx} {C : Str} {o : Option Nat} {pos : Pos}
theorem dx_of {e : Expr} {f : Ev} (h : ∀ a pn, DE (X.suite a pn) Wn e f) : DEx X C o e (fun _ => f) := fun a oe cls d pn _ _ => by
  obtain ⟨t, p, s⟩ := h a ((a, oe) :: pn)
  exact ⟨t, p, fun x φ ρ env M σ H Q _ e m h => s φ ρ env M σ H Q e m h⟩
theorem dx_fld {i : Nat} {n f : Str} {p : Pos} (T : XfC X.K (gadr X.K C)) (hno : PySem.W.findIn X.K (.ref (gadr X.K C)) f = some none) (hN : X.N[i]? = some n := by rfl) (hl : X.env.kindOf n = some .local := by rfl) (hd : (n == ("__debug__" : Str)) = false := by decide) (hcd : (n == ("__classdict__" : Str)) = false := by decide)
    (hb : attributeBase (.Name n p) f X.env (eval (.Name n p) X.env) = eval (.Name n p) X.env := by rfl) :
    DEx X C (some i) (.Attribute (.Name n p) f pos) (fun x env M => if i < env.length then xFld f x env M else .st) := fun a oe cls d pn z hf => by
  refine ⟨_, pe_xf T hno z hf (pe_var (i := i) hN (.inl hl) hd hcd) hb, fun x φ ρ env M σ H Q g e m h => ?_⟩
  dsimp only at h
  by_cases l : i < env.length
  · rw [if_pos l] at h
    unfold xFld at h
    split at h
    · rename_i d' hd'
      obtain ⟨dx, hdx, n, gs, hx, r⟩ := g.d
      obtain ⟨v, hv, rv⟩ := RFs.lookup r hd'
      exact ⟨_, g.s i rfl (by rw [← e.length]; exact l), rfl, g.cls, dx, gs, v, hdx, hx, hv, h _ _ _ .refl m rv⟩
    · exact h.elim
  · rw [if_neg l] at h
    exact h.elim
theorem dax_nil : DAx X C o [] (fun _ => aNil) := ⟨fun x env M ds M' h => by cases h; rfl, fun a oe cls d pn _ _ => ⟨_, pa_nil, fun x φ ρ env M σ H Q _ e m h => h _ _ _ .refl m .nil⟩⟩
theorem dax_cons {a : Expr} {es : List Expr} {f : Exn → Ev} {g : Exn → EvL} (ha : DEx X C o a f) (hg : DAx X C o es g) (hs : starEach (a :: es) X.env = (false, eval a X.env) :: starEach es X.env := by rfl) : DAx X C o (a :: es) (fun x => aCons (f x) (g x)) := by
  obtain ⟨lg, hg⟩ := hg
  refine ⟨fun x env M ds M' h => ?_, fun b oe cls d pn z hf => ?_⟩
  · dsimp only at h
    unfold aCons at h
    cases h1 : f x env M with
    | ok d M1 =>
      rw [h1] at h
      have h' : ((g x env M1).bindL fun ds M => .ok (d :: ds) M) = .ok ds M' := h
      cases h2 : g x env M1 with
      | ok ds2 M2 => rw [h2] at h'; cases h'; simp [lg _ _ _ _ _ h2]
      | ex x M2 => rw [h2] at h'; cases h'
      | st => rw [h2] at h'; cases h'
    | ex x M1 => rw [h1] at h; cases h
    | st => rw [h1] at h; cases h
  · obtain ⟨ta, pa, sa⟩ := ha b oe cls d pn z hf
    obtain ⟨tg, pg, sg⟩ := hg b oe cls d pn z hf
    refine ⟨_, pa_cons pa pg hs, fun x φ ρ env M σ H Q c e m h => ?_⟩
    refine sa x φ ρ env M σ H _ c e m (Post.bindL h fun d M1 ρ1 H1 v a1 b1 c1 h1 => ?_)
    refine sg x φ ρ1 env M1 σ H1 _ (c.ext a1) (e.ext a1) b1 (PostL.bindL h1 fun ds M2 ρ2 H2 vs a2 b2 c2 h2 => ?_)
    exact h2 _ _ _ .refl b2 (.cons (c1.ext a2) c2)
theorem dx_lst {es : List Expr} {f : Exn → EvL} (h : DAx X C o es f) (hl : es.length ≤ sizeLine := by show _ ≤ 16777216; decide) : DEx X C o (.List es pos) (fun x => eLst (f x)) := fun b oe cls d pn z hf => by
  obtain ⟨l, h⟩ := h
  obtain ⟨t, p, s⟩ := h b oe cls d pn z hf
  refine ⟨_, pe_lst p, fun x φ ρ env M σ H Q g e m h => ?_⟩
  dsimp only at h
  unfold eLst at h
  cases hf : f x env M with
  | ok ds M1 =>
    rw [hf] at h
    refine s x φ ρ env M σ H _ g e m ?_
    rw [hf]
    intro ρ1 H1 vs a b c
    refine ⟨by rw [← c.length, l _ _ _ _ _ hf]; exact hl, fun p hp => ?_⟩
    have ex : Ext ρ1 H1 ρ1 (upd H1 p (.lst vs)) := .new hp
    exact h _ _ _ (a.trans ex) (b.new hp) (.lst upd_same (b.fresh hp) (c.ext ex))
  | ex y M1 =>
    rw [hf] at h
    refine s x φ ρ env M σ H _ g e m ?_
    rw [hf]
    exact h
  | st => rw [hf] at h; exact h.elim
theorem sui_ret {e : Expr} {f : Exn → Ev} (h : DEx X C o e f) : SuiD X C o [.Return (some e) pos] (fun x => sRet (f x)) := fun a oe cls d pn z hf => by
  obtain ⟨t, p, s⟩ := h a oe cls d pn z hf
  refine ⟨_, pss_one (ps_ret p), fun x φ ρ env M σ H E g e m h => ?_⟩
  refine s x φ ρ env M σ H _ g e m (Post.bindS e h fun d M1 ρ1 H1 v a1 b1 c1 h1 => ?_)
  exact h1 _ _ _ .refl b1 c1
end
/-! the head's facts -/
def tExm (xs ys : List Str) : Ft := fun K => xs.all fun x => ys.all fun y => decide (PySem.W.exmOne K (.ref (gadr K x)) (.ref (gadr K y)) = some (decide (y = x)))
theorem tExm_ok {xs ys : List Str} {K : PySem.W.Frag} (c : tExm xs ys K = true) {cs : List Cla} (h : cs.map (·.cls) = ys) : ∀ y ∈ xs, ∀ z ∈ cs, PySem.W.exmOne K (.ref (gadr K y)) (.ref (gadr K z.cls)) = some (decide (z.cls = y)) := fun y hy z hz =>
  of_decide_eq_true (List.all_eq_true.mp (List.all_eq_true.mp c y hy) z.cls (h ▸ List.mem_map_of_mem hz))
def tXf (x f : Str) : Ft := fun K => xfB K (gadr K x) && decide (PySem.W.findIn K (.ref (gadr K x)) f = some none)
theorem tXf_ok {x f : Str} {K : PySem.W.Frag} (c : tXf x f K = true) : XfC K (gadr K x) ∧ PySem.W.findIn K (.ref (gadr K x)) f = some none := by
  obtain ⟨a, b⟩ := Bool.and_eq_true_iff.mp c
  exact ⟨xfB_ok a, of_decide_eq_true b⟩
end DL

namespace DL
open PySem L2 PyProof.Rows PySem.Spec
theorem and4 {a b : Bool} (h : (a && b) = true) : a = true ∧ b = true := Bool.and_eq_true_iff.mp h
/-- the class x (an own exception that keeps f), on the built-in b -/
def tExc (x f : Str) (b : DX.Bx) : Ft := fun K =>
  let C := gadr K x
  let fI := cadr K x "__init__"
  decide (PySem.W.findIn K (.ref C) "__init__" = some (some (.ref fI))) && (decide (PySem.W.typeIn K (.ref fI) = some (.type "function")) && (PySem.W.keepIn K (.ref C) && (PySem.W.excInitIn K C b.bm b.ne && (PySem.W.excOver K C b.bm &&
  (decide (PySem.W.findIn K (.ref C) "__setattr__" = some (some (.builtin "object.__setattr__"))) && (decide (PySem.W.takerIn K C f = some none) && (PySem.W.hasDictIn K C && (decide (PySem.W.subIn K (.ref C) (.type "BaseException") = some true) && (decide (PySem.W.typeIn K (.ref C) = some (.type "type")) &&
  (decide (PySem.W.subIn K (.ref C) (.type b.B) = some true) && (decide (PySem.W.ks_superIn K C C "__init__" = some (some (.builtin b.ini))) && (decide (PySem.W.mroIn K C (.ref C) = some true) && decide (PySem.W.nsIn K cStatics "thirdparty.any" = some none)))))))))))))
theorem tExc_ok {K : PySem.W.Frag} {x f : Str} {b : DX.Bx} (c : tExc x f b K = true) {d : FdX} {file : Str} (hn : d.cl = some (x, file)) (hd : d.dfl = []) (q : fnX K d = d.dv.val ∧ d.ok K = true) (ha : d.adr K = cadr K x "__init__")
    (tx : DX.Txt (defBody d.st) (defArgs d.st) (defScope d.st) f)
    (hb : ∀ (kV doc pm ct : Value) (an : Option Addr) (cda : Value) (cc : Addr) (s : Shared) (u v : Value), BindsTo s (PySem.W.ksFn d.name d.qual (defArgs d.st) (defBody d.st) (defScope d.st) .none kV doc pm an cda ct cc) ⟨[u, v], []⟩ [("self", u), (f, v)]) :
    DX.Fx K file f b (gadr K x) (cadr K x "__init__") := by
  obtain ⟨c1, c⟩ := and4 c
  obtain ⟨c2, c⟩ := and4 c
  obtain ⟨c3, c⟩ := and4 c
  obtain ⟨c4, c⟩ := and4 c
  obtain ⟨c5, c⟩ := and4 c
  obtain ⟨c6, c⟩ := and4 c
  obtain ⟨c7, c⟩ := and4 c
  obtain ⟨c8, c⟩ := and4 c
  obtain ⟨c9, c⟩ := and4 c
  obtain ⟨c10, c⟩ := and4 c
  obtain ⟨c11, c⟩ := and4 c
  obtain ⟨c12, c⟩ := and4 c
  obtain ⟨c13, c14⟩ := and4 c
  obtain ⟨oc, kV, doc, pm, ct, od, an, cda, cc, osl, h1, h2, h3, h4⟩ := FdX.excD hn hd q.1 q.2
  rw [ha] at h1
  exact ⟨of_decide_eq_true c1, of_decide_eq_true c2, c3, c4, c5, of_decide_eq_true c6, of_decide_eq_true c7, c8, of_decide_eq_true c9, of_decide_eq_true c10, of_decide_eq_true c11, of_decide_eq_true c12, of_decide_eq_true c13, of_decide_eq_true c14,
    ⟨_, _, _, _, _, oc, .none, kV, doc, pm, ct, od, an, cda, cc, osl, h1, h2, tx, fun s u v => hb _ _ _ _ _ _ _ _ _ _, h3, h4⟩⟩
end DL

namespace DL
open PySem L2 PyProof.Rows PySem.Spec
/-- e.f of the exception in slot i -/
def xRd (i : Nat) (f : Str) (x : Exn) : Ev := fun env M => if i < env.length then xFld f x env M else .st
theorem dx_rd {X : Cx} {C f n : Str} {i : Nat} {p pos : Pos} (T : XfC X.K (gadr X.K C) ∧ PySem.W.findIn X.K (.ref (gadr X.K C)) f = some none) (hN : X.N[i]? = some n := by rfl) (hl : X.env.kindOf n = some .local := by rfl) (hd : (n == ("__debug__" : Str)) = false := by decide) (hcd : (n == ("__classdict__" : Str)) = false := by decide)
    (hb : attributeBase (.Name n p) f X.env (eval (.Name n p) X.env) = eval (.Name n p) X.env := by rfl) : DEx X C (some i) (.Attribute (.Name n p) f pos) (fun x => xRd i f x) := dx_fld T.1 T.2 hN hl hd hcd hb
end DL

namespace DL
open PySem L2 PyProof.Rows PySem.Spec
/-! ### x in a list -/
def rInL (K : PySem.W.Frag) : R2 := fun x y H Q => ∃ d es, Dp K H x d ∧ Dp K H y (.list es) ∧ SeqAt.shaped d = true ∧ SeqAt.shaped (.list es) = true ∧ Q (.bl (es.any fun z => PyData.eqv z d)) H
def rNinL (K : PySem.W.Frag) : R2 := fun x y H Q => ∃ d es, Dp K H x d ∧ Dp K H y (.list es) ∧ SeqAt.shaped d = true ∧ SeqAt.shaped (.list es) = true ∧ Q (.bl (!es.any fun z => PyData.eqv z d)) H
def inD (x y : D) : Option Bool := match toP x, toP y with
  | some d, some (.list es) => if SeqAt.shaped d && SeqAt.shaped (.list es) then some (es.any fun z => PyData.eqv z d) else none
  | _, _ => none
def gIn : Op2 := fun x y M => match inD (valD M x) (valD M y) with
  | some b => .ok (.bl b) M
  | none => .st
def gNin : Op2 := fun x y M => match inD (valD M x) (valD M y) with
  | some b => .ok (.bl (!b)) M
  | none => .st
/-! ### list(x), for the store -/
def nListN : OpN := fun xs M => match xs with
  | [d] => match seqD M d with
    | some ds => .ok (.ref M.length) (M ++ [.lst ds])
    | none => .st
  | _ => .st
theorem _root_.L2.Room.units65 {k : Nat} {A : PySem.Around} (r : L2.Room k A) : A.units + 65 < PySem.cLine := by have := r.un; omega
end DL

/-! a law's call, its def's promise with guards -/
namespace DL
open PySem L2 PyProof.Rows PySem.Spec
theorem roomG {k : Nat} (h : L2.Room k callerA) : Room k callerA := ⟨h, rfl⟩
def scr (vs : List Value) : Obj := { cls := .type "list", data := .seq vs.toArray }
/-- the script alone may be known -/
theorem law_start {P : Program} {w : World} {K : PySem.W.Frag} {a : Addr} {h : Heap} {vs : List Value} {ns : List Int} (KX : K.In h) (ha : h.get? a = some (scr vs)) (hi : IntsAre vs ns) (hl : ns.length ≤ sizeLine) :
    ∃ H : Hp, SqL K H a (ns.map V.int) ∧ HOk P w H h ∧ ∀ b u, H b = some u → b = a ∧ K.lookup a = none ∧ u = .frz (scr vs) (.lst (ns.map V.int)) := by
  have rv := vals_ints hi
  by_cases hk : K.lookup a = none
  · let H : Hp := fun b => if b = a then some (.frz (scr vs) (.lst (ns.map V.int))) else none
    have at_ : ∀ b u, H b = some u → b = a ∧ u = .frz (scr vs) (.lst (ns.map V.int)) := fun b u z => by
      by_cases q : b = a
      · exact ⟨q, (Option.some.inj ((if_pos q).symm.trans z)).symm⟩
      · exact nomatch (if_neg q).symm.trans z
    refine ⟨H, .inl (.inr ⟨scr vs, if_pos rfl⟩), fun b u z => ?_, fun b u z => ⟨(at_ b u z).1, hk, (at_ b u z).2⟩⟩
    obtain ⟨rfl, rfl⟩ := at_ b u z
    exact ⟨ha, by simpa using hl, vs, _, rv, ha⟩
  · obtain ⟨o, ho⟩ := Option.ne_none_iff_exists'.mp hk
    have same := (KX a o ho).symm.trans ha
    obtain rfl := Option.some.inj same
    have nh : ∀ b u, (fun _ => none : Hp) b = some u → False := fun b u z => nomatch (show (none : Option HO) = some u from z)
    exact ⟨fun _ => none, .inr ⟨_, vs.toArray, _, ho, rfl, rfl, rfl, by simpa [hi.length] using hl, by simpa using rv⟩, fun b u z => (nh b u z).elim, fun b u z => (nh b u z).elim⟩
theorem law_callG {P : Program} {w : World} {K : PySem.W.Frag} {mg mb : Str → Option Value} {CX : CXT} {k : Nat} {fa a : Addr} {fd : FuncData} {x : Str} {sp : Sp} {z : Shared} {vs : List Value} {ns : List Int}
    (KX : K.In z.heap) (gl : z.heap.Ns mainGlobals mg) (bu : z.heap.Ns builtinsNs mb) (bb : ∀ x : Str, x ≠ "__name__" → mb x = bootBuiltins x) (li : z.heap.NoLimit) (ge : z.gens = #[])
    (ha : z.heap.get? a = some (scr vs)) (hi : IntsAre vs ns) (hl : ns.length ≤ sizeLine) (hr : Room k callerA)
    (F : ∀ base : Heap, K.In base → base.Ns mainGlobals mg → FnOk P w K mg base CX k fa fd [x] sp) (bi : ∀ (s : Shared) (u : Value), BindsTo s fd ⟨[u], []⟩ [(x, u)])
    (hsp : ∀ H : Hp, SqL K H a (ns.map V.int) → sp [.ref a] H (fun v _ => v = .bl true) fun _ _ _ => False)
    (hCX : ∀ H e s', CX [] H z (fun _ _ _ => False) e s' → False) :
    codeAny (model P w) callerA (.call (.ref fa) ⟨[.ref a], []⟩) (fun r s' => r = .ok (.ret (.bool true)) ∧ OldK z.heap s'.heap ∧ s'.os = z.os ∧ AllBare s'.gens) z := by
  obtain ⟨H, hS, hok, hA⟩ := law_start (P := P) (w := w) KX ha hi hl
  -- what is not the script stays in sight
  have see : ∀ {b : Addr} {o : Obj}, z.heap.get? b = some o → (b = a → K.lookup a = none → False) → (hidT z.heap H).get? b = some o := fun {b o} e n => hidT_get e (by
    cases q : H b with
    | none => rfl
    | some u => exact (n (hA b u q).1 (hA b u q).2.1).elim)
  have seeNs : ∀ {b : Addr} {m : Str → Option Value}, z.heap.Ns b m → (hidT z.heap H).Ns b m := fun {b m} t => by
    obtain ⟨o, es, ep, e, d, r⟩ := t
    exact ⟨o, es, ep, see e (fun q _ => by
      subst q
      obtain rfl := Option.some.inj (e.symm.trans ha)
      exact nomatch (show Data.seq vs.toArray _ = Data.dict es ep from d)), d, r⟩
  have seeK : K.In (hidT z.heap H) := fun b o e => see (KX b o e) fun q n => by subst q; exact nomatch e.symm.trans n
  have glob := seeNs gl
  have mo : Mod K mg (hidT z.heap H) := ⟨seeK, glob, ⟨mb, seeNs bu, bb⟩, by obtain ⟨mc, h1, h2⟩ := li; exact ⟨mc, seeNs h1, h2⟩⟩
  have none_ : ∀ {b : Addr} {p : Prop}, b ∈ ([] : List Addr) → p := fun q => nomatch q
  have start : Env0 P w K mg (hidT z.heap H) callerA [] z H := ⟨rfl, mo, fun b o e => of_hidT e, Nat.le_of_eq (hidT_size _ _), trivial, fun b hb => none_ (show b ∈ ([] : List Addr) from hb), hok, .of_eq ge⟩
  have go := (F _ seeK glob).run callerA [] z H ⟨[.ref a], []⟩ [.ref a] [.ref a] (fun v _ => v = .bl true) (fun _ _ _ => False) hr start (bi z (.ref a)) (.cons rfl .nil) (hsp H hS)
  refine codeAny_mono go fun r s' y => ?_
  match r, y with
  | .error e, y => exact (hCX H e s' y).elim
  | .ok .next, y => exact y.elim
  | .ok .brk, y => exact y.elim
  | .ok .cont, y => exact y.elim
  | .ok (.ret u), y =>
    obtain ⟨v, H', os, bare, un, hok', rv, rfl⟩ := y
    obtain rfl : u = Value.bool true := rv
    refine ⟨rfl, .of_keep fun b o e => ?_, os, bare⟩
    cases q : H b with
    | none => exact un.keep b o e q (fun t => none_ (show b ∈ ([] : List Addr) from t)) (fun t => none_ t)
    | some f =>
      obtain ⟨rfl, _, rfl⟩ := hA b f q
      have kept := (hok' b _ (un.frzs b _ _ q)).1
      exact (Option.some.inj ((hok b _ q).1.symm.trans e)) ▸ kept
/-- what is asked of a law's def over a written part -/
abbrev Kept (P : Program) (n k : Nat) (cx : CXT) (par : Str) (w : World) (mg : Str → Option Value) (fa : Addr) (h : Heap) : Prop :=
  ∃ (K : PySem.W.Frag) (df : FuncData) (pr : Sp), K.In h ∧ (∀ z u, BindsTo z df ⟨[u], []⟩ [(par, u)]) ∧ (∀ (H : Hp) (a : Addr) (ns : List Int), ns.length ≤ n → SqL K H a (ns.map V.int) → pr [.ref a] H (fun v _ => v = .bl true) fun _ _ _ => False) ∧
    ∀ base : Heap, K.In base → base.Ns mainGlobals mg → FnOk P w K mg base cx k fa df [par] pr
theorem walk_ofG {l : PySem.W.OpenLaw} {n k : Nat} {q : Program} {more : List Str} {XP : (Str → Option Value) → Heap → Prop} {YP : World → Heap → Prop} {d : DefRec} {cx : CXT} {par : Str} (most : l.most = some n) (small : n ≤ sizeLine) (plain : d.params.defaults = []) (room : L2.Room k callerA)
    (F : ∀ w mg fa h, YP w h → h.Ns mainGlobals mg → mg d.name = some (.ref fa) → Kept l.prog n k cx par w mg fa h) (quiet : ∀ H z e z', cx [] H z (fun _ _ _ => False) e z' → False) : PySem.W.WalkO q more XP YP l.row.toRowW d [] (fun f vs => PySem.call f vs) :=
  Att.attach_call most plain fun w s0 s1 mg mb fa o pm cd doc a vs ns G Y ho hd hcd hmg ob it le ge => by
    obtain ⟨K, fd, sp, KX, b, hs, ok⟩ := F w mg fa _ Y G.T.g hmg
    exact law_callG KX G.T.g G.T.b G.T.builtins G.T.nolimit ge ob it (Nat.le_trans le small) (roomG room) ok b (fun H => hs H a ns le) fun H => quiet H s1
end DL

namespace DL
open PySem L2 PyProof.Rows PySem.Spec
/-! ### repr of data -/
def rRepr (K : PySem.W.Frag) : List V → Hp → VK → Prop := fun xs H Q => ∃ x d, xs = [x] ∧ Dp K H x d ∧ d.showable = true ∧ d.hasDict = false ∧ d.depth ≤ 64 ∧ d.shown.length ≤ sizeLine ∧ Q (.str d.shown) H
theorem cr_repr {X : Cx} (hg : X.A.guards = some []) (hu : X.A.units + 65 < cLine) : CallR X (.builtin "repr") (rRepr X.K) := by
  (intro pins s σ H vs us Q I r h)
  obtain ⟨x, d, rfl, hd, hs, hn, h64, hz, q⟩ := h
  cases r with
  | @cons _ u _ us r1 r2 =>
    cases r2 with
    | nil =>
      obtain ⟨as, rd⟩ := Dp.reads I d x u hd r1
      have big : isDisplay d = true → wpAny (model X.prog X.w) X.A (call (.builtin "repr") [u]) (EP X pins σ Q) X.xe s := fun z => by
        obtain ⟨a, rfl⟩ := isRef_of_reads rd z
        exact repr_of_reads' rd hs (PyData.noDict_hsm hn) hg (by omega) (fun _ _ e => e) (fun h' t tk hk => ⟨.str d.shown, H, I.kept hk, ⟨_, rfl⟩, q⟩) hz
      cases d with
      | list ds => exact big rfl
      | tuple ds => exact big rfl
      | dict ds => exact nomatch hn
      | none => cases rd; exact P.repr_of_none ⟨.str _, H, I.tok _, ⟨_, rfl⟩, q⟩
      | bool b => cases rd; exact P.repr_of_bool ⟨.str _, H, I.tok _, ⟨_, rfl⟩, q⟩
      | int i => cases rd; exact P.repr_of_int (of_decide_eq_true hs) ⟨.str _, H, I.tok _, ⟨_, rfl⟩, q⟩
      | str t => cases rd; exact P.repr_of_str ⟨.str _, H, I.tok _, ⟨_, rfl⟩, q⟩ hz
def nRepr : OpN := fun xs M => match xs with
  | [d] => match toP (valD M d) with
    | some p => if p.showable = true ∧ p.hasDict = false ∧ p.depth ≤ 64 ∧ p.shown.length ≤ sizeLine then .ok (.str p.shown) M else .st
    | none => .st
  | _ => .st
theorem cd_repr {X : Cx} {W : WX} {k : Nat} (hr : Room k X.A) : CallD X W (.builtin "repr") nRepr := by
  refine ⟨_, cr_repr hr.gd hr.units65, fun φ ρ M σ H xs vs Q m r h => ?_⟩
  unfold nRepr at h
  split at h
  · obtain ⟨v, rfl, rd⟩ := r.one
    split at h
    · rename_i p hp
      split at h
      · rename_i z
        exact ⟨_, p, rfl, valD_dp m rd hp, z.1, z.2.1, z.2.2.1, z.2.2.2, h _ _ _ .refl m (.str _)⟩
      · exact h.elim
    · exact h.elim
  · exact h.elim
end DL

namespace DL
open PySem L2 PyProof.Rows PySem.Spec
/-! ### xs.extend(t), t a tuple, xs a list of the store -/
def rExtT (K : PySem.W.Frag) : V → List V → Hp → VK → Prop := fun x vs H Q => ∃ l b xs zs, x = .ref l ∧ vs = [.ref b] ∧ H l = some (.lst xs) ∧ SqT K H b zs ∧ xs.length + zs.length ≤ sizeLine ∧ Q .non (upd H l (.lst (xs ++ zs)))
section
variable {X : Cx}
end
def mExtend (fo fa : Ev) : Ev := fun env M => (fo env M).bind fun d M1 => match d with
  | .ref l => match M1[l]? with
    | some (.lst _) => (fa env M1).bind fun x M2 => match M2[l]?, x with
      | some (.lst xs), .tup ds => if xs.length + ds.length ≤ sizeLine then .ok .non (M2.set l (.lst (xs ++ ds))) else .st
      | _, _ => .st
    | _ => .st
  | _ => .st
section
variable {X : Cx} {W : WX} {o a : Expr} {fo fa : Ev} {pos apos : Pos}
end
end DL

namespace DL
open PySem L2 PyProof.Rows PySem.Spec
/-! ### a tuple, times 2 or more -/
def rRepK (K : PySem.W.Frag) : R2 := fun x y H Q => ∃ l k xs, x = .ref l ∧ y = .int k ∧ SqT K H l xs ∧ xs ≠ [] ∧ 2 ≤ k ∧ k ≤ 1000 ∧ xs.length ≤ 1000 ∧ ∀ p o, H p = none → o.dict = none → Q (.ref p) (upd H p (.frz o (.tup (List.replicate k.toNat xs).flatten)))
section
variable {X : Cx} {W : WX}
def gRepK : Op2 := fun x y M => match x, y with
  | .tup (d :: ds), .int k => if 2 ≤ k ∧ k ≤ 1000 ∧ ds.length < 1000 then .ok (.tup (List.replicate k.toNat (d :: ds)).flatten) M else .st
  | _, _ => .st
abbrev gMul4 : Op2 := gOr gMul3 gRepK
end
end DL

namespace DL
open PySem L2 PyProof.Rows PySem.Spec
/-! ### in a clause: comparisons and calls of what the exception holds -/
section
variable {X : Cx} {C : Str} {o : Option Nat} {pos p : Pos} {k : Nat}
theorem dx_callB {id : String} {g : OpN} {x : Str} {a : Expr} {es : List Expr} {f : Exn → EvL} (hc : ∀ a pn, CallD (X.suite a pn) Wn (.builtin id) g) (hg : Gl X x) (hm : X.mg x = none) (hv : bootBuiltins x = some (.builtin id)) (ha : DAx X C o (a :: es) f) (hn : x ≠ "__name__" := by decide) (hdb : (x == ("__debug__" : Str)) = false := by decide)
    (he : starEach (a :: es) X.env = (false, eval a X.env) :: starEach es X.env := by rfl) (hpl : (backTo pos (starEach es X.env)).any (·.1) = false := by rfl) :
    DEx X C o (.Call (.Name x p) (a :: es) [] pos) (fun y => eCall g (f y)) := fun z oe cls d pn zc hf => by
  obtain ⟨r, o', so⟩ := hc z ((z, oe) :: pn)
  obtain ⟨_, ha⟩ := ha
  obtain ⟨ta, pa, sa⟩ := ha z oe cls d pn zc hf
  refine ⟨_, pe_callB o' hg hm hv pa hn hdb he hpl, fun y φ ρ env M σ H Q c e m h => ?_⟩
  exact sa y φ ρ env M σ H _ c e m (PostL.bind h fun d M1 ρ1 H1 v a1 b1 c1 h1 => so φ ρ1 M1 σ H1 d v Q b1 c1 h1)
theorem sc_repr (hr : Room k X.A) : ∀ a pn, CallD (X.suite a pn) Wn (.builtin "repr") nRepr := fun a pn => by
  refine ⟨_, cr_repr (X := X.suite a pn) hr.gd hr.units65, fun φ ρ M σ H xs vs Q m r h => ?_⟩
  unfold nRepr at h
  split at h
  · obtain ⟨v, rfl, rd⟩ := r.one
    split at h
    · rename_i p hp
      split at h
      · rename_i z
        exact ⟨_, p, rfl, valD_dp m rd hp, z.1, z.2.1, z.2.2.1, z.2.2.2, h _ _ _ .refl m (.str _)⟩
      · exact h.elim
    · exact h.elim
  · exact h.elim
end
end DL

namespace DL
open PySem L2 PyProof.Rows PySem.Spec
/-! ### sorted(t), t a tuple of ints -/
/-- the heap with a new list of these items -/
def gath (h : Heap) (xs : Array Value) : Heap := (h.push (seqObj "list" #[] 0)).update h.objs.size (Obj.mapSeq fun ys => ys ++ xs)
section
variable {prog : Program} {w : World} {A : Around} {E : Value → Shared → Prop} {s : Shared} {t : Addr} {vs : List Value}
end
def rSortedT (K : PySem.W.Frag) : List V → Hp → VK → Prop := fun vs H Q => ∃ t ns, vs = [V.ref t] ∧ SqT K H t (List.map V.int ns) ∧ ∀ ms p, List.Perm ms ns → List.Pairwise (· ≤ ·) ms → H p = none → Q (.ref p) (upd H p (.lst (ms.map V.int)))
def nSortIT : OpN := fun xs M => match xs with
  | [.tup ds] => match intsD ds with
    | some ns => .ok (.lst ((sortI ns).map .int)) M
    | none => .st
  | _ => .st
section
variable {X : Cx} {W : WX}
abbrev nSortedT : OpN := gnOr nSorted nSortIT
end
end DL

namespace DL
open PySem L2 PyProof.Rows PySem.Spec
/-! ### one rule or the other -/
def fOr (f g : Ev) : Ev := fun env M => (f env M).or (g env M)
section
variable {X : Cx} {W : WX} {e : Expr} {f g : Ev} {pos p : Pos}
/-! ### {} as a value -/
def eDv : Ev := fun _ M => .ok (.dcv []) M
theorem de_dv : DE X W (.Dict [] [] pos) eDv := by
  refine ⟨_, pe_dnewK, fun φ ρ env M σ H Q e m h => ?_⟩
  intro a ha
  have ex : Ext ρ H ρ (upd H a (.dK [])) := .new ha
  exact h _ _ _ ex (m.new ha) (.dcv upd_same (m.fresh ha) .nil)
/-! its text -/
def rReprE : List V → Hp → VK → Prop := fun xs H Q => ∃ a, xs = [.ref a] ∧ H a = some (.dK []) ∧ Q (.str "{}") H
theorem cr_reprE (hg : X.A.guards = some []) (hu : X.A.units + 65 < cLine) : CallR X (.builtin "repr") rReprE := by
  (intro pins s σ H vs us Q I r h)
  obtain ⟨a, rfl, ha, q⟩ := h
  obtain rfl := Vals.ref1 r
  obtain ⟨hz, hs, ws, kv, hdo⟩ := dk_of I.hok ha
  cases kv with
  | nil =>
    obtain ⟨ep, o, es, ho, hx, hd, hes⟩ : ∃ (ep : Nat) (o : Obj) (es : Array DictEntry), s.heap.get? a = some o ∧ o.ExactDict ∧ o.data = .dict es ep ∧ es.toList = [] := by
      obtain ⟨o, es, ep, h1, h2, h3, _, h5, _⟩ := hdo
      have h6 := h5.length
      exact ⟨ep, o, es, h1, h2, h3, List.eq_nil_of_length_eq_zero h6⟩
    have rd : Reads s.heap (.ref a) (.dict []) (a :: [] ++ []) := .dict ho hx.1 hd (by rw [hes]; exact .nil) (by rw [hes]; exact .nil)
    have hne : a ≠ sysModules := fun z => by rw [z] at hs; simp at hs
    have e : (PyData.dict []).shown = ("{}" : PySem.Str) := by decide +kernel
    refine repr_of_reads' rd rfl (fun _ => by simpa using Ne.symm hne) hg (by show X.A.units + (1 + 1) < cLine; omega) (fun _ _ e => e) (fun h' t tk hk => ⟨.str (PyData.dict []).shown, H, I.kept hk, ⟨_, rfl⟩, by rw [e]; exact q⟩) (by rw [e, sizeLine_eq]; decide)
def nReprE : OpN := fun xs M => match xs with
  | [.dcv []] => .ok (.str "{}") M
  | _ => .st
theorem cd_reprE {k : Nat} (hr : Room k X.A) : CallD X W (.builtin "repr") nReprE := by
  refine ⟨_, cr_reprE hr.gd hr.units65, fun φ ρ M σ H xs vs Q m r h => ?_⟩
  unfold nReprE at h
  split at h
  · obtain ⟨v, rfl, rd⟩ := r.one
    cases rd with
    | dcv hh n rk =>
      cases rk
      exact ⟨_, rfl, hh, h _ _ _ .refl m (.str _)⟩
  · exact h.elim
abbrev nReprD : OpN := gnOr nRepr nReprE
theorem cd_reprD {k : Nat} (hr : Room k X.A) : CallD X W (.builtin "repr") nReprD := (cd_repr hr).or (cd_reprE hr)
theorem sc_reprD {k : Nat} (hr : Room k X.A) : ∀ a pn, CallD (X.suite a pn) Wn (.builtin "repr") nReprD := fun a pn => by
  refine (sc_repr hr a pn).or ⟨_, cr_reprE (X := X.suite a pn) hr.gd hr.units65, fun φ ρ M σ H xs vs Q m r h => ?_⟩
  unfold nReprE at h
  split at h
  · obtain ⟨v, rfl, rd⟩ := r.one
    cases rd with
    | dcv hh n rk =>
      cases rk
      exact ⟨_, rfl, hh, h _ _ _ .refl m (.str _)⟩
  · exact h.elim
/-! reading a dict by value -/
def kOfD : D → Option Key
  | .int i => some (.inl i)
  | .str x => some (.inr x)
  | _ => none
end
/-! ### calls that leave all that they made -/
def eFnG (F : Fn) (f : EvL) : Ev := fun env M => (f env M).bind F
section
variable {X : Cx} {W : WX} {pos p apos : Pos} {o a f : Expr} {es : List Expr} {fo ff : Ev} {fl : EvL} {x c m : Str} {k j n : Nat} {F : Fn}
/-! ### a call of what an expression gives: one of several defs -/
structure TbD (P : Program) (w : World) (K : PySem.W.Frag) (mg : Str → Option Value) (base : Heap) (k n : Nat) (tb : List (Str × Fn)) : Prop where
  all : ∀ x F, (x, F) ∈ tb → CalD P w K mg base k x n F
theorem CalD.mono {P : Program} {w : World} {K : PySem.W.Frag} {mg : Str → Option Value} {base : Heap} {j k n : Nat} {x : Str} {F : Fn} (C : CalD P w K mg base j x n F) (h : j ≤ k) : CalD P w K mg base k x n F := by
  obtain ⟨fd, ps, hl, G, bd⟩ := C.ok
  exact ⟨C.mg_, C.kp, fd, ps, hl, G.mono h, bd⟩
def tbAt (tb : List (Str × Fn)) (x : Str) : Option Fn := match tb with
  | [] => none
  | (y, F) :: tb => if y = x then some F else tbAt tb x
def eCalX (tb : List (Str × Fn)) (ff : Ev) (fl : EvL) : Ev := fun env M => (ff env M).bind fun d M1 => match d with
  | .glo x => match tbAt tb x with
    | some F => (fl env M1).bind (callF F)
    | none => .st
  | _ => .st
end
end DL

namespace HL
open PySem DL
def c_effects_check_effects_1 : Sx :=
  (sIf (eNot (eCall (nIsC "Effect" ["Effect"] []) (aCons (eVar 1) (aCons (eC (.glo "Effect")) aNil)))) (sRaise "InvalidEffect" "part" (eC (.str "effect")))
    sNil)
def c_effects_check_effects : Sx :=
  (sFor [0, 1] (iA (eVar 0)) (gN 1) c_effects_check_effects_1)
def F_effects_check_effects : Fn := defn 1 2 c_effects_check_effects
def c_bags_drop_1 : Sx :=
  (sIf (eOp gGt (eVar 5) (eVar 6)) (sExpr (mAppend (eVar 3) (eTup (aCons (eVar 4) (aCons (eOp gSubI (eVar 5) (eVar 6)) aNil)))))
    sNil)
def c_bags_drop_2 : Sx :=
  (sSeq (sAug 2 gSubI (eVar 6))
    c_bags_drop_1)
def c_bags_drop_3 : Sx :=
  (sSeq (sAsg (eCall nMin2 (aCons (eVar 2) (aCons (eVar 5) aNil))) (gN 6))
    c_bags_drop_2)
def c_bags_drop_4 : Sx :=
  (sRet (eCall nTup (aCons (eVar 3) aNil)))
def c_bags_drop_5 : Sx :=
  (sSeq (sFor [0, 1, 4, 5, 6] (iA (eVar 0)) (gT 2 (gsCons (gN 4) (gsCons (gN 5) gsNil))) c_bags_drop_3)
    c_bags_drop_4)
def c_bags_drop : Sx :=
  (sSeq (sPar 2 3 (aCons (eVar 1) (aCons (eNew aNil) aNil)))
    c_bags_drop_5)
def F_bags_drop : Fn := defn 2 7 c_bags_drop
def c_bags_from_counts : Sx :=
  (sRet (eCall nTup (aCons (eCall nSorted (aCons (eLcK itemsA 0 [1, 2] (gT 2 (gsCons (gN 1) (gsCons (gN 2) gsNil))) (eOp gGt (eVar 2) (eC (.int 0))) (eTup (aCons (eVar 1) (aCons (eVar 2) aNil)))) aNil)) aNil)))
def F_bags_from_counts : Fn := defn 1 3 c_bags_from_counts
def c_bags_add_1 : Sx :=
  (sDput (eVar 2) (eVar 3) (eOp gAdd (eDget2 (eVar 2) (eVar 3) (eC (.int 0))) (eVar 4)))
def c_bags_add_2 : Sx :=
  (sRet (eFn F_bags_from_counts (aCons (eVar 2) aNil)))
def c_bags_add_3 : Sx :=
  (sSeq (sFor [0, 1, 3, 4] (iA (eVar 1)) (gT 2 (gsCons (gN 3) (gsCons (gN 4) gsNil))) c_bags_add_1)
    c_bags_add_2)
def c_bags_add : Sx :=
  (sSeq (sAsg (eCall nDict (aCons (eVar 0) aNil)) (gN 2))
    c_bags_add_3)
def F_bags_add : Fn := defn 2 5 c_bags_add
def c_bags_subtract_1 : Sx :=
  (sDput (eVar 2) (eVar 3) (eOp gSubI (eDget2 (eVar 2) (eVar 3) (eC (.int 0))) (eVar 4)))
def c_bags_subtract_2 : Sx :=
  (sRet (eIf (eCall nAny (aCons (eLcK valsA 2 [4] (gN 4) fYes (eOp gLt (eVar 4) (eC (.int 0)))) aNil)) (eC .non) (eFn F_bags_from_counts (aCons (eVar 2) aNil))))
def c_bags_subtract_3 : Sx :=
  (sSeq (sFor [0, 1, 3, 4] (iA (eVar 1)) (gT 2 (gsCons (gN 3) (gsCons (gN 4) gsNil))) c_bags_subtract_1)
    c_bags_subtract_2)
def c_bags_subtract : Sx :=
  (sSeq (sAsg (eCall nDict (aCons (eVar 0) aNil)) (gN 2))
    c_bags_subtract_3)
def F_bags_subtract : Fn := defn 2 5 c_bags_subtract
def c_effects_join_parts_1 : Sx :=
  (sRet (eTup (aCons (eFn F_bags_add (aCons (eOp gIx (eVar 0) (eC (.int 0))) (aCons (eVar 2) aNil))) (aCons (eOp gAdd (eOp gIx (eVar 0) (eC (.int 1))) (eVar 3)) (aCons (eFn F_bags_add (aCons (eVar 4) (aCons (eVar 5) aNil))) aNil)))))
def c_effects_join_parts_2 : Sx :=
  (sSeq (sAsg (eFn F_bags_drop (aCons (eFn F_bags_add (aCons (eOp gIx (eVar 0) (eC (.int 2))) (aCons (eFn F_bags_subtract (aCons (eVar 2) (aCons (eVar 4) aNil))) aNil))) (aCons (eVar 3) aNil))) (gN 5))
    c_effects_join_parts_1)
def c_effects_join_parts : Sx :=
  (sSeq (sAsg (eVar 1) (gT 3 (gsCons (gN 2) (gsCons (gN 3) (gsCons (gN 4) gsNil)))))
    c_effects_join_parts_2)
def F_effects_join_parts : Fn := defn 2 6 c_effects_join_parts
def c_bags_is_integer : Sx :=
  (sRet (eAnd (eCall nIsTy (aCons (eVar 0) (aCons (eC (.ty "int")) aNil))) (eNot (eCall nIsTy (aCons (eVar 0) (aCons (eC (.ty "bool")) aNil))))))
def F_bags_is_integer : Fn := defn 1 1 c_bags_is_integer
def c_bags_is_bag_1 : Sx :=
  (sExpr (mAppend (eVar 1) (eVar 3)))
def c_bags_is_bag_2 : Sx :=
  (sSeq (sIf (eAnd (eOp gNe (eVar 1) (eLst aNil)) (eOp gLe (eVar 3) (eOp gIx (eVar 1) (eNeg (eC (.int 1)))))) (sRet (eC (.bl false)))
    sNil)
    c_bags_is_bag_1)
def c_bags_is_bag_3 : Sx :=
  (sSeq (sIf (eOr (eNot (eFn F_bags_is_integer (aCons (eVar 3) aNil))) (eOr (eNot (eFn F_bags_is_integer (aCons (eVar 4) aNil))) (eOp gLt (eVar 4) (eC (.int 1))))) (sRet (eC (.bl false)))
    sNil)
    c_bags_is_bag_2)
def c_bags_is_bag_4 : Sx :=
  (sSeq (sAsg (eVar 2) (gT 2 (gsCons (gN 3) (gsCons (gN 4) gsNil))))
    c_bags_is_bag_3)
def c_bags_is_bag_5 : Sx :=
  (sSeq (sIf (eOr (eNot (eCall nIsTy (aCons (eVar 2) (aCons (eC (.ty "tuple")) aNil)))) (eOp gNe (eCall nLen (aCons (eVar 2) aNil)) (eC (.int 2)))) (sRet (eC (.bl false)))
    sNil)
    c_bags_is_bag_4)
def c_bags_is_bag_6 : Sx :=
  (sRet (eC (.bl true)))
def c_bags_is_bag_7 : Sx :=
  (sSeq (sFor [0, 2, 3, 4] (iA (eVar 0)) (gN 2) c_bags_is_bag_5)
    c_bags_is_bag_6)
def c_bags_is_bag_8 : Sx :=
  (sSeq (sAsg (eNew aNil) (gN 1))
    c_bags_is_bag_7)
def c_bags_is_bag : Sx :=
  (sSeq (sIf (eNot (eCall nIsTy (aCons (eVar 0) (aCons (eC (.ty "tuple")) aNil)))) (sRet (eC (.bl false)))
    sNil)
    c_bags_is_bag_8)
def F_bags_is_bag : Fn := defn 1 5 c_bags_is_bag
def c_bags_check_bag : Sx :=
  (sIf (eNot (eFn F_bags_is_bag (aCons (eVar 0) aNil))) (sRaise "InvalidBag" "value" (eVar 0))
    sNil)
def F_bags_check_bag : Fn := defn 1 1 c_bags_check_bag
def c_bags_is_count : Sx :=
  (sRet (eAnd (eFn F_bags_is_integer (aCons (eVar 0) aNil)) (eOp gGe (eVar 0) (eC (.int 0)))))
def F_bags_is_count : Fn := defn 1 1 c_bags_is_count
def c_bags_check_count : Sx :=
  (sIf (eNot (eFn F_bags_is_count (aCons (eVar 0) aNil))) (sRaise "InvalidCount" "value" (eVar 0))
    sNil)
def F_bags_check_count : Fn := defn 1 1 c_bags_check_count
def c_bags_total : Sx :=
  (sRet (eCall nSum (aCons (eLc [1, 2] (iA (eVar 0)) (gT 2 (gsCons (gN 1) (gsCons (gN 2) gsNil))) fYes (eVar 2)) aNil)))
def F_bags_total : Fn := defn 1 3 c_bags_total
def c_effects_find_fault_1 : Sx :=
  (sRet (eIf (eOp gGt (eFn F_bags_total (aCons (eVar 3) aNil)) (eVar 1)) (eC (.str "removals")) (eC .non)))
def c_effects_find_fault_2 : Sx :=
  (sSeq (sIf (eOp gIs (eVar 3) (eC .non)) (sRet (eC (.str "survivors")))
    sNil)
    c_effects_find_fault_1)
def c_effects_find_fault : Sx :=
  (sSeq (sAsg (eFn F_bags_subtract (aCons (eVar 0) (aCons (eVar 2) aNil))) (gN 3))
    c_effects_find_fault_2)
def F_effects_find_fault : Fn := defn 3 4 c_effects_find_fault
def c_Effect_init_1 : Sx :=
  (sFldS "Effect" "own_parts" (eVar 0) (eTup (aCons (eVar 1) (aCons (eVar 2) (aCons (eVar 3) aNil)))))
def c_Effect_init_2 : Sx :=
  (sSeq (sIf (eOp gIsNot (eVar 4) (eC .non)) (sRaise "InvalidEffect" "part" (eVar 4))
    sNil)
    c_Effect_init_1)
def c_Effect_init_3 : Sx :=
  (sSeq (sAsg (eFn F_effects_find_fault (aCons (eVar 1) (aCons (eVar 2) (aCons (eVar 3) aNil)))) (gN 4))
    c_Effect_init_2)
def c_Effect_init_4 : Sx :=
  (sSeq (sExpr (eFn F_bags_check_bag (aCons (eVar 3) aNil)))
    c_Effect_init_3)
def c_Effect_init_5 : Sx :=
  (sSeq (sExpr (eFn F_bags_check_count (aCons (eVar 2) aNil)))
    c_Effect_init_4)
def c_Effect_init : Sx :=
  (sSeq (sExpr (eFn F_bags_check_bag (aCons (eVar 1) aNil)))
    c_Effect_init_5)
def F_Effect_init : Fn := defn 4 5 c_Effect_init
def c_algebra_make_effect : Sx :=
  (sRet (eMake "Effect" F_Effect_init (aCons (eOp gIx (eVar 0) (eC (.int 0))) (aCons (eOp gIx (eVar 0) (eC (.int 1))) (aCons (eOp gIx (eVar 0) (eC (.int 2))) aNil)))))
def F_algebra_make_effect : Fn := defn 1 1 c_algebra_make_effect
def c_algebra_compose_1 : Sx :=
  (sAsg (eFn F_effects_join_parts (aCons (eVar 1) (aCons (eFld "Effect" "own_parts" (eVar 2)) aNil))) (gN 1))
def c_algebra_compose_2 : Sx :=
  (sRet (eFn F_algebra_make_effect (aCons (eVar 1) aNil)))
def c_algebra_compose_3 : Sx :=
  (sSeq (sFor [0, 2] (iA (eVar 0)) (gN 2) c_algebra_compose_1)
    c_algebra_compose_2)
def c_algebra_compose_4 : Sx :=
  (sSeq (sAsg (eC (.tup [.tup [], .int 0, .tup []])) (gN 1))
    c_algebra_compose_3)
def c_algebra_compose : Sx :=
  (sSeq (sExpr (eFn F_effects_check_effects (aCons (eVar 0) aNil)))
    c_algebra_compose_4)
def F_algebra_compose : Fn := starF 0 3 c_algebra_compose
def c_Effect_identity : Sx :=
  (sRet (eMakeV "Effect" F_Effect_init (eVar 0) (aCons (eTup aNil) (aCons (eC (.int 0)) (aCons (eTup aNil) aNil)))))
def F_Effect_identity : Fn := defn 1 1 c_Effect_identity
def c_Effect_eq : Sx :=
  (sRet (eAnd (eCall (nIsC "Effect" ["Effect"] []) (aCons (eVar 1) (aCons (eC (.glo "Effect")) aNil))) (eOp gEq (eFld "Effect" "own_parts" (eVar 0)) (eFld "Effect" "own_parts" (eVar 1)))))
def F_Effect_eq : Fn := defn 2 2 c_Effect_eq
def c_q_pool_1 : Sx :=
  (sRet (eNew (aCons (eOp gMul (eVar 3) (eCall nInt (aCons (eOp gGe (eVar 3) (eOp gPowI (eC (.int 10)) (eC (.int 18)))) aNil))) (aCons (eOp gModI (eOp gMul (eVar 4) (eVar 4)) (eC (.int 2147483629))) aNil))))
def c_q_pool_2 : Sx :=
  (sSeq (sAsg (eOp gModI (eOp gMul (eOp gAdd (eOp gAdd (eOp gAdd (eOp gModI (eVar 3) (eC (.int 2147483629))) (eOp gMul (eOp gMul (eC (.int 7919)) (eVar 1)) (eVar 1))) (eOp gMul (eC (.int 31)) (eVar 1))) (eC (.int 17))) (eC (.int 48271))) (eC (.int 2147483647))) (gN 4))
    c_q_pool_1)
def c_q_pool_3 : Sx :=
  (sSeq (sAsg (eCall nAbs (aCons (eVar 2) aNil)) (gN 3))
    c_q_pool_2)
def c_q_pool_4 : Sx :=
  (sSeq (sIf (eOp gLt (eVar 1) (eCall nLen (aCons (eVar 0) aNil))) (sAsg (eOp gIx (eVar 0) (eVar 1)) (gN 2))
    sNil)
    c_q_pool_3)
def c_q_pool : Sx :=
  (sSeq (sAsg (eOp gAdd (eOp gMul (eC (.int 11)) (eCall nSum (aCons (eSl (eVar 0) oNone (oSome (eC (.int 63)))) aNil))) (eVar 1)) (gN 2))
    c_q_pool_4)
def F_q_pool : Fn := defn 2 5 c_q_pool
def c_q_draw_1 : Sx :=
  (sRet (eVar 2))
def c_q_draw_2 : Sx :=
  (sSeq (sAsg (eOp gDivI (eOp gIx (eVar 0) (eC (.int 0))) (eVar 1)) (gSub (eVar 0) (eC (.int 0))))
    c_q_draw_1)
def c_q_draw_3 : Sx :=
  (sRet (eOp gModI (eOp gDivI (eOp gModI (eOp gMul (eOp gIx (eVar 0) (eC (.int 1))) (eOp gIx (eVar 0) (eC (.int 1)))) (eC (.int 2147483629))) (eC (.int 16))) (eVar 1)))
def c_q_draw_4 : Sx :=
  (sSeq (sAsg (eOp gModI (eOp gAdd (eOp gMul (eOp gIx (eVar 0) (eC (.int 1))) (eC (.int 48271))) (eC (.int 11))) (eC (.int 2147483647))) (gSub (eVar 0) (eC (.int 1))))
    c_q_draw_3)
def c_q_draw : Sx :=
  (sSeq (sIf (eOp gGt (eOp gIx (eVar 0) (eC (.int 0))) (eC (.int 0))) (sSeq (sAsg (eOp gModI (eOp gIx (eVar 0) (eC (.int 0))) (eVar 1)) (gN 2))
    c_q_draw_2)
    sNil)
    c_q_draw_4)
def F_q_draw : Fn := defn 2 3 c_q_draw
def c_q_great_program_1 (R_q_great_program : Fn) : Sx :=
  (sIf (eOp gLt (eVar 4) (eC (.int 2))) (sExpr (mAppend (eVar 2) (eTup (aCons (eC (.str "insert")) (aCons (eOp gSubI (eFn F_q_draw (aCons (eVar 0) (aCons (eC (.int 9)) aNil))) (eC (.int 4))) (aCons (eVar 5) aNil))))))
    (sIf (eOr (eOp gLt (eVar 4) (eC (.int 3))) (eOp gEq (eVar 1) (eC (.int 0)))) (sExpr (mAppend (eVar 2) (eTup (aCons (eC (.str "remove")) (aCons (eVar 5) aNil)))))
    (sExpr (mAppend (eVar 2) (eTup (aCons (eC (.str "repeat")) (aCons (eVar 5) (aCons (eFn R_q_great_program (aCons (eVar 0) (aCons (eOp gSubI (eVar 1) (eC (.int 1))) aNil))) aNil))))))))
def c_q_great_program_2 (R_q_great_program : Fn) : Sx :=
  (sSeq (sAsg (eOp gIx (eLst (aCons (eFn F_q_draw (aCons (eVar 0) (aCons (eC (.int 4)) aNil))) (aCons (eFn F_q_draw (aCons (eVar 0) (aCons (eOp gPowI (eC (.int 10)) (eC (.int 24))) aNil))) aNil))) (eFn F_q_draw (aCons (eVar 0) (aCons (eC (.int 2)) aNil)))) (gN 5))
    (c_q_great_program_1 R_q_great_program))
def c_q_great_program_3 (R_q_great_program : Fn) : Sx :=
  (sSeq (sAsg (eFn F_q_draw (aCons (eVar 0) (aCons (eC (.int 5)) aNil))) (gN 4))
    (c_q_great_program_2 R_q_great_program))
def c_q_great_program_4 (R_q_great_program : Fn) : Sx :=
  (sRet (eCall nTup (aCons (eVar 2) aNil)))
def c_q_great_program_5 (R_q_great_program : Fn) : Sx :=
  (sSeq (sFor [3, 4, 5] (iR1 (eOp gAdd (eC (.int 1)) (eFn F_q_draw (aCons (eVar 0) (aCons (eC (.int 3)) aNil))))) (gN 3) (c_q_great_program_3 R_q_great_program))
    (c_q_great_program_4 R_q_great_program))
def c_q_great_program (R_q_great_program : Fn) : Sx :=
  (sSeq (sAsg (eNew aNil) (gN 2))
    (c_q_great_program_5 R_q_great_program))
def F_q_great_program : Nat → Fn
  | 0 => fnSt
  | n + 1 => defn 2 6 (c_q_great_program (F_q_great_program n))
def c_programs_is_step : Sx :=
  (sMatch (eVar 0) (mSeq [2, 3, 4] (some (eOp gEq (eVar 2) (eC (.str "insert")))) (sRet (eAnd (eCall nIsTy (aCons (eVar 0) (aCons (eC (.ty "tuple")) aNil))) (eAnd (eFn F_bags_is_integer (aCons (eVar 3) aNil)) (eFn F_bags_is_count (aCons (eVar 4) aNil))))) (mSeq [2, 4] (some (eOp gEq (eVar 2) (eC (.str "remove")))) (sRet (eAnd (eCall nIsTy (aCons (eVar 0) (aCons (eC (.ty "tuple")) aNil))) (eFn F_bags_is_count (aCons (eVar 4) aNil)))) (mSeq [2, 4, 5] (some (eOp gEq (eVar 2) (eC (.str "repeat")))) (sRet (eAnd (eCall nIsTy (aCons (eVar 0) (aCons (eC (.ty "tuple")) aNil))) (eAnd (eFn F_bags_is_count (aCons (eVar 4) aNil)) (eAnd (eCall nIsTy (aCons (eVar 5) (aCons (eC (.ty "tuple")) aNil))) (eOp gLt (eVar 1) (eC (.int 8))))))) (mAny (sRet (eC (.bl false))))))))
def F_programs_is_step : Fn := defn 2 6 c_programs_is_step
def c_programs_find_invalid_1 (R_programs_find_invalid : Fn) : Sx :=
  (sIf (eOp gIsNot (eVar 4) (eC .non)) (sRet (eOp gAdd (eTup (aCons (eVar 2) aNil)) (eVar 4)))
    sNil)
def c_programs_find_invalid_2 (R_programs_find_invalid : Fn) : Sx :=
  (sSeq (sAsg (eIf (eOp gEq (eOp gIx (eVar 3) (eC (.int 0))) (eC (.str "repeat"))) (eFn R_programs_find_invalid (aCons (eOp gIx (eVar 3) (eC (.int 2))) (aCons (eOp gAdd (eVar 1) (eC (.int 1))) aNil))) (eC .non)) (gN 4))
    (c_programs_find_invalid_1 R_programs_find_invalid))
def c_programs_find_invalid_3 (R_programs_find_invalid : Fn) : Sx :=
  (sSeq (sIf (eNot (eFn F_programs_is_step (aCons (eVar 3) (aCons (eVar 1) aNil)))) (sRet (eTup (aCons (eVar 2) aNil)))
    sNil)
    (c_programs_find_invalid_2 R_programs_find_invalid))
def c_programs_find_invalid_4 (R_programs_find_invalid : Fn) : Sx :=
  (sRet (eC .non))
def c_programs_find_invalid (R_programs_find_invalid : Fn) : Sx :=
  (sSeq (sFor [0, 2, 3, 4] (iEnA (eVar 0)) (gT 2 (gsCons (gN 2) (gsCons (gN 3) gsNil))) (c_programs_find_invalid_3 R_programs_find_invalid))
    (c_programs_find_invalid_4 R_programs_find_invalid))
def F_programs_find_invalid : Nat → Fn
  | 0 => fnSt
  | n + 1 => defn 2 5 (c_programs_find_invalid (F_programs_find_invalid n))
def c_programs_check_program_1 : Sx :=
  (sIf (eOp gIsNot (eVar 1) (eC .non)) (sRaise "InvalidProgram" "path" (eVar 1))
    sNil)
def c_programs_check_program : Sx :=
  (sSeq (sAsg (eIf (eCall nIsTy (aCons (eVar 0) (aCons (eC (.ty "tuple")) aNil))) (eFn (F_programs_find_invalid 16) (aCons (eVar 0) (aCons (eC (.int 1)) aNil))) (eTup aNil)) (gN 1))
    c_programs_check_program_1)
def F_programs_check_program : Fn := defn 1 2 c_programs_check_program
def c_bags_scale : Sx :=
  (sRet (eIf (eOp gGt (eVar 1) (eC (.int 0))) (eCall nTup (aCons (eLc [2, 3] (iA (eVar 0)) (gT 2 (gsCons (gN 2) (gsCons (gN 3) gsNil))) fYes (eTup (aCons (eVar 2) (aCons (eOp gMul (eVar 3) (eVar 1)) aNil)))) aNil)) (eTup aNil)))
def F_bags_scale : Fn := defn 2 4 c_bags_scale
def c_effects_repeat_parts_1 : Sx :=
  (sRet (eTup (aCons (eFn F_bags_scale (aCons (eVar 2) (aCons (eVar 1) aNil))) (aCons (eOp gMul (eVar 3) (eVar 1)) (aCons (eFn F_bags_add (aCons (eVar 4) (aCons (eVar 5) aNil))) aNil)))))
def c_effects_repeat_parts_2 : Sx :=
  (sSeq (sAsg (eFn F_bags_scale (aCons (eFn F_bags_drop (aCons (eVar 2) (aCons (eVar 3) aNil))) (aCons (eOp gSubI (eVar 1) (eC (.int 1))) aNil))) (gN 5))
    c_effects_repeat_parts_1)
def c_effects_repeat_parts_3 : Sx :=
  (sSeq (sAsg (eVar 0) (gT 3 (gsCons (gN 2) (gsCons (gN 3) (gsCons (gN 4) gsNil)))))
    c_effects_repeat_parts_2)
def c_effects_repeat_parts : Sx :=
  (sSeq (sIf (eOp gEq (eVar 1) (eC (.int 0))) (sRet (eC (.tup [.tup [], .int 0, .tup []])))
    sNil)
    c_effects_repeat_parts_3)
def F_effects_repeat_parts : Fn := defn 2 6 c_effects_repeat_parts
def c_effects_program_parts_1 (R_effects_program_parts : Fn) (R_effects_step_parts : Fn) : Sx :=
  (sAsg (eFn F_effects_join_parts (aCons (eVar 1) (aCons (eFn R_effects_step_parts (aCons (eVar 2) aNil)) aNil))) (gN 1))
def c_effects_program_parts_2 (R_effects_program_parts : Fn) (R_effects_step_parts : Fn) : Sx :=
  (sRet (eVar 1))
def c_effects_program_parts_3 (R_effects_program_parts : Fn) (R_effects_step_parts : Fn) : Sx :=
  (sSeq (sFor [0, 2] (iA (eVar 0)) (gN 2) (c_effects_program_parts_1 R_effects_program_parts R_effects_step_parts))
    (c_effects_program_parts_2 R_effects_program_parts R_effects_step_parts))
def c_effects_program_parts (R_effects_program_parts : Fn) (R_effects_step_parts : Fn) : Sx :=
  (sSeq (sAsg (eC (.tup [.tup [], .int 0, .tup []])) (gN 1))
    (c_effects_program_parts_3 R_effects_program_parts R_effects_step_parts))
def c_effects_step_parts_1 (R_effects_program_parts : Fn) (R_effects_step_parts : Fn) : Sx :=
  (sRet (eTup (aCons (eVar 4) (aCons (eC (.int 0)) (aCons (eVar 4) aNil)))))
def c_effects_step_parts (R_effects_program_parts : Fn) (R_effects_step_parts : Fn) : Sx :=
  (sMatch (eVar 0) (mSeq [1, 2, 3] (some (eOp gEq (eVar 1) (eC (.str "insert")))) (sSeq (sAsg (eFn F_bags_scale (aCons (eTup (aCons (eTup (aCons (eVar 2) (aCons (eC (.int 1)) aNil))) aNil)) (aCons (eVar 3) aNil))) (gN 4))
    (c_effects_step_parts_1 R_effects_program_parts R_effects_step_parts)) (mSeq [1, 3] none (sRet (eTup (aCons (eTup aNil) (aCons (eVar 3) (aCons (eTup aNil) aNil))))) (mSeq [1, 3, 5] none (sRet (eFn F_effects_repeat_parts (aCons (eFn R_effects_program_parts (aCons (eVar 5) aNil)) (aCons (eVar 3) aNil)))) mEnd))))
mutual
def F_effects_program_parts : Nat → Fn
  | 0 => fnSt
  | n + 1 => defn 1 3 (c_effects_program_parts (F_effects_program_parts n) (F_effects_step_parts n))
def F_effects_step_parts : Nat → Fn
  | 0 => fnSt
  | n + 1 => defn 1 6 (c_effects_step_parts (F_effects_program_parts n) (F_effects_step_parts n))
end
def c_Effect_of_1 : Sx :=
  (sRet (eMakeV "Effect" F_Effect_init (eVar 0) (aCons (eVar 2) (aCons (eVar 3) (aCons (eVar 4) aNil)))))
def c_Effect_of_2 : Sx :=
  (sSeq (sAsg (eFn (F_effects_program_parts 30) (aCons (eVar 1) aNil)) (gT 3 (gsCons (gN 2) (gsCons (gN 3) (gsCons (gN 4) gsNil)))))
    c_Effect_of_1)
def c_Effect_of : Sx :=
  (sSeq (sExpr (eFn F_programs_check_program (aCons (eVar 1) aNil)))
    c_Effect_of_2)
def F_Effect_of : Fn := defn 2 5 c_Effect_of
def c_bags_size_of_1 : Sx :=
  (sRet (eFn F_bags_total (aCons (eVar 0) aNil)))
def c_bags_size_of : Sx :=
  (sSeq (sExpr (eFn F_bags_check_bag (aCons (eVar 0) aNil)))
    c_bags_size_of_1)
def F_bags_size_of : Fn := defn 1 1 c_bags_size_of
def c_Effect_inserted : Sx :=
  (sRet (eOp gIx (eFld "Effect" "own_parts" (eVar 0)) (eC (.int 0))))
def F_Effect_inserted : Fn := defn 1 1 c_Effect_inserted
def c_Effect_removals : Sx :=
  (sRet (eOp gIx (eFld "Effect" "own_parts" (eVar 0)) (eC (.int 1))))
def F_Effect_removals : Fn := defn 1 1 c_Effect_removals
def c_Effect_needed : Sx :=
  (sRet (eOp gAdd (eOp gSubI (eOp gIx (eFld "Effect" "own_parts" (eVar 0)) (eC (.int 1))) (eFn F_bags_total (aCons (eOp gIx (eFld "Effect" "own_parts" (eVar 0)) (eC (.int 0))) aNil))) (eFn F_bags_total (aCons (eOp gIx (eFld "Effect" "own_parts" (eVar 0)) (eC (.int 2))) aNil))))
def F_Effect_needed : Fn := defn 1 1 c_Effect_needed
def c_Effect_consumed : Sx :=
  (sRet (eFn F_bags_subtract (aCons (eOp gIx (eFld "Effect" "own_parts" (eVar 0)) (eC (.int 0))) (aCons (eOp gIx (eFld "Effect" "own_parts" (eVar 0)) (eC (.int 2))) aNil))))
def F_Effect_consumed : Fn := defn 1 1 c_Effect_consumed
def c_Effect_pool_1 : Sx :=
  (sRet (eFn F_bags_add (aCons (eVar 1) (aCons (eProp "Effect" F_Effect_consumed (eVar 0)) aNil))))
def c_Effect_pool_2 : Sx :=
  (sSeq (sIf (eOp gLt (eFn F_bags_total (aCons (eVar 1) aNil)) (eProp "Effect" F_Effect_needed (eVar 0))) (sRaise "EmptyHeap" "index" (eC .non))
    sNil)
    c_Effect_pool_1)
def c_Effect_pool : Sx :=
  (sSeq (sExpr (eFn F_bags_check_bag (aCons (eVar 1) aNil)))
    c_Effect_pool_2)
def F_Effect_pool : Fn := defn 2 2 c_Effect_pool
def c_Effect_survivors : Sx :=
  (sRet (eOp gIx (eFld "Effect" "own_parts" (eVar 0)) (eC (.int 2))))
def F_Effect_survivors : Fn := defn 1 1 c_Effect_survivors
def c_Effect_apply : Sx :=
  (sRet (eFn F_bags_add (aCons (eProp "Effect" F_Effect_survivors (eVar 0)) (aCons (eFn F_bags_drop (aCons (eMeth "Effect" "pool" F_Effect_pool (eVar 0) (aCons (eVar 1) aNil)) (aCons (eProp "Effect" F_Effect_removals (eVar 0)) aNil))) aNil))))
def F_Effect_apply : Fn := defn 2 2 c_Effect_apply
def c_q_great_effect_1 : Sx :=
  (sAsg (eOp gSubI (eOp gAdd (eVar 3) (eVar 5)) (eVar 6)) (gN 3))
def c_q_great_effect_2 : Sx :=
  (sSeq (sExpr (mAppend (eVar 2) (eTup (aCons (eVar 4) (aCons (eVar 6) aNil)))))
    c_q_great_effect_1)
def c_q_great_effect_3 : Sx :=
  (sSeq (sExpr (mAppend (eVar 1) (eTup (aCons (eVar 4) (aCons (eVar 5) aNil)))))
    c_q_great_effect_2)
def c_q_great_effect_4 : Sx :=
  (sSeq (sAsg (eOp gIx (eLst (aCons (eC (.int 0)) (aCons (eVar 5) (aCons (eFn F_q_draw (aCons (eVar 0) (aCons (eOp gAdd (eVar 5) (eC (.int 1))) aNil))) aNil)))) (eFn F_q_draw (aCons (eVar 0) (aCons (eC (.int 3)) aNil)))) (gN 6))
    c_q_great_effect_3)
def c_q_great_effect_5 : Sx :=
  (sSeq (sAsg (eOp gIx (eLst (aCons (eC (.int 0)) (aCons (eFn F_q_draw (aCons (eVar 0) (aCons (eC (.int 4)) aNil))) (aCons (eFn F_q_draw (aCons (eVar 0) (aCons (eOp gPowI (eC (.int 10)) (eC (.int 30))) aNil))) aNil)))) (eFn F_q_draw (aCons (eVar 0) (aCons (eC (.int 3)) aNil)))) (gN 5))
    c_q_great_effect_4)
def c_q_great_effect_6 : Sx :=
  (sRet (eMake "Effect" F_Effect_init (aCons (eVar 1) (aCons (eOp gAdd (eVar 3) (eVar 7)) (aCons (eVar 2) aNil)))))
def c_q_great_effect_7 : Sx :=
  (sSeq (sAsg (eOp gIx (eLst (aCons (eC (.int 0)) (aCons (eFn F_q_draw (aCons (eVar 0) (aCons (eC (.int 4)) aNil))) (aCons (eFn F_q_draw (aCons (eVar 0) (aCons (eOp gPowI (eC (.int 10)) (eC (.int 30))) aNil))) aNil)))) (eFn F_q_draw (aCons (eVar 0) (aCons (eC (.int 3)) aNil)))) (gN 7))
    c_q_great_effect_6)
def c_q_great_effect_8 : Sx :=
  (sSeq (sAsg (eCall nTup (aCons (eLc [8] (iA (eVar 2)) (gN 8) (eOp gGt (eOp gIx (eVar 8) (eC (.int 1))) (eC (.int 0))) (eVar 8)) aNil)) (gN 2))
    c_q_great_effect_7)
def c_q_great_effect_9 : Sx :=
  (sSeq (sAsg (eCall nTup (aCons (eLc [8] (iA (eVar 1)) (gN 8) (eOp gGt (eOp gIx (eVar 8) (eC (.int 1))) (eC (.int 0))) (eVar 8)) aNil)) (gN 1))
    c_q_great_effect_8)
def c_q_great_effect_10 : Sx :=
  (sSeq (sFor [4, 5, 6, 7] (iR2 (eNeg (eC (.int 3))) (eC (.int 4))) (gN 4) c_q_great_effect_5)
    c_q_great_effect_9)
def c_q_great_effect : Sx :=
  (sSeq (sPar3 1 2 3 (aCons (eNew aNil) (aCons (eNew aNil) (aCons (eC (.int 0)) aNil))))
    c_q_great_effect_10)
def F_q_great_effect : Fn := defn 1 9 c_q_great_effect
def c_algebra_power_1 : Sx :=
  (sRet (eFn F_algebra_make_effect (aCons (eFn F_effects_repeat_parts (aCons (eFld "Effect" "own_parts" (eVar 0)) (aCons (eVar 1) aNil))) aNil)))
def c_algebra_power_2 : Sx :=
  (sSeq (sExpr (eFn F_bags_check_count (aCons (eVar 1) aNil)))
    c_algebra_power_1)
def c_algebra_power : Sx :=
  (sSeq (sExpr (eFn F_effects_check_effects (aCons (eLst (aCons (eVar 0) aNil)) aNil)))
    c_algebra_power_2)
def F_algebra_power : Fn := defn 2 2 c_algebra_power
def c_q_level : Sx :=
  (sRet (eCall nSum (aCons (eLc [2, 3] (iA (eVar 0)) (gT 2 (gsCons (gN 2) (gsCons (gN 3) gsNil))) (eOp gLe (eVar 2) (eVar 1)) (eVar 3)) aNil)))
def F_q_level : Fn := defn 2 4 c_q_level
def c_q_holds_v9_1 : Sx :=
  (sIf (eOp gNe (eFn F_q_level (aCons (eProp "Effect" F_Effect_inserted (eVar 3)) (aCons (eVar 4) aNil))) (eOp gMul (eFn F_q_level (aCons (eProp "Effect" F_Effect_inserted (eVar 0)) (aCons (eVar 4) aNil))) (eOp gAdd (eVar 1) (eC (.int 1))))) (sRet (eC (.bl false)))
    sNil)
def c_q_holds_v9_2 : Sx :=
  (sSeq (sIf (eOp gNe (eFn F_q_level (aCons (eProp "Effect" F_Effect_survivors (eVar 3)) (aCons (eVar 4) aNil))) (eOp gAdd (eFn F_q_level (aCons (eProp "Effect" F_Effect_survivors (eVar 0)) (aCons (eVar 4) aNil))) (eOp gMul (eVar 1) (eVar 5)))) (sRet (eC (.bl false)))
    sNil)
    c_q_holds_v9_1)
def c_q_holds_v9_3 : Sx :=
  (sSeq (sAsg (eCall nMax2 (aCons (eC (.int 0)) (aCons (eOp gSubI (eFn F_q_level (aCons (eProp "Effect" F_Effect_inserted (eVar 0)) (aCons (eVar 4) aNil))) (eProp "Effect" F_Effect_removals (eVar 0))) aNil))) (gN 5))
    c_q_holds_v9_2)
def c_q_holds_v9_4 : Sx :=
  (sRet (eOp gEq (eProp "Effect" F_Effect_removals (eVar 3)) (eOp gMul (eProp "Effect" F_Effect_removals (eVar 0)) (eOp gAdd (eVar 1) (eC (.int 1))))))
def c_q_holds_v9_5 : Sx :=
  (sSeq (sFor [2, 4, 5] (iR2 (eNeg (eC (.int 5))) (eC (.int 6))) (gN 4) c_q_holds_v9_3)
    c_q_holds_v9_4)
def c_q_holds_v9_6 : Sx :=
  (sSeq (sAsg (eFn F_algebra_power (aCons (eVar 0) (aCons (eOp gAdd (eVar 1) (eC (.int 1))) aNil))) (gN 3))
    c_q_holds_v9_5)
def c_q_holds_v9_7 : Sx :=
  (sSeq (sIf (eNot (eOp (gEql "Effect" F_Effect_eq) (eFn F_algebra_power (aCons (eFn F_algebra_power (aCons (eVar 0) (aCons (eVar 1) aNil))) (aCons (eVar 2) aNil))) (eFn F_algebra_power (aCons (eVar 0) (aCons (eOp gMul (eVar 1) (eVar 2)) aNil))))) (sRet (eC (.bl false)))
    sNil)
    c_q_holds_v9_6)
def c_q_holds_v9 : Sx :=
  (sSeq (sIf (eNot (eOp (gEql "Effect" F_Effect_eq) (eFn F_algebra_power (aCons (eVar 0) (aCons (eOp gAdd (eVar 1) (eVar 2)) aNil))) (eFn F_algebra_compose (aCons (eFn F_algebra_power (aCons (eVar 0) (aCons (eVar 1) aNil))) (aCons (eFn F_algebra_power (aCons (eVar 0) (aCons (eVar 2) aNil))) aNil))))) (sRet (eC (.bl false)))
    sNil)
    c_q_holds_v9_7)
def F_q_holds_v9 : Fn := defn 3 6 c_q_holds_v9
def c_q_step_sums_1 (R_q_step_sums : Fn) (R_q_sums : Fn) : Sx :=
  (sRet (eLst (aCons (eVar 2) (aCons (eVar 2) aNil))))
def c_q_step_sums_2 (R_q_step_sums : Fn) (R_q_sums : Fn) : Sx :=
  (sRet (eLst (aCons (eOp gMul (eVar 3) (eOp gIx (eVar 0) (eC (.int 1)))) (aCons (eOp gAdd (eVar 4) (eOp gMul (eOp gSubI (eOp gIx (eVar 0) (eC (.int 1))) (eC (.int 1))) (eCall nMax2 (aCons (eC (.int 0)) (aCons (eVar 3) aNil))))) aNil))))
def c_q_step_sums_3 (R_q_step_sums : Fn) (R_q_sums : Fn) : Sx :=
  (sSeq (sAsg (eFn R_q_sums (aCons (eOp gIx (eVar 0) (eC (.int 2))) (aCons (eVar 1) aNil))) (gT 2 (gsCons (gN 3) (gsCons (gN 4) gsNil))))
    (c_q_step_sums_2 R_q_step_sums R_q_sums))
def c_q_step_sums_4 (R_q_step_sums : Fn) (R_q_sums : Fn) : Sx :=
  (sSeq (sIf (eOp gEq (eOp gIx (eVar 0) (eC (.int 1))) (eC (.int 0))) (sRet (eLst (aCons (eC (.int 0)) (aCons (eC (.int 0)) aNil))))
    sNil)
    (c_q_step_sums_3 R_q_step_sums R_q_sums))
def c_q_step_sums_5 (R_q_step_sums : Fn) (R_q_sums : Fn) : Sx :=
  (sSeq (sIf (eOp gEq (eOp gIx (eVar 0) (eC (.int 0))) (eC (.str "remove"))) (sRet (eLst (aCons (eNeg (eOp gIx (eVar 0) (eC (.int 1)))) (aCons (eC (.int 0)) aNil))))
    sNil)
    (c_q_step_sums_4 R_q_step_sums R_q_sums))
def c_q_step_sums (R_q_step_sums : Fn) (R_q_sums : Fn) : Sx :=
  (sSeq (sIf (eOp gEq (eOp gIx (eVar 0) (eC (.int 0))) (eC (.str "insert"))) (sSeq (sAsg (eIf (eOp gLe (eOp gIx (eVar 0) (eC (.int 1))) (eVar 1)) (eOp gIx (eVar 0) (eC (.int 2))) (eC (.int 0))) (gN 2))
    (c_q_step_sums_1 R_q_step_sums R_q_sums))
    sNil)
    (c_q_step_sums_5 R_q_step_sums R_q_sums))
def c_q_sums_1 (R_q_step_sums : Fn) (R_q_sums : Fn) : Sx :=
  (sPar 2 3 (aCons (eOp gAdd (eVar 2) (eVar 5)) (aCons (eCall nMax2 (aCons (eOp gAdd (eVar 3) (eVar 5)) (aCons (eVar 6) aNil))) aNil)))
def c_q_sums_2 (R_q_step_sums : Fn) (R_q_sums : Fn) : Sx :=
  (sSeq (sAsg (eFn R_q_step_sums (aCons (eVar 4) (aCons (eVar 1) aNil))) (gT 2 (gsCons (gN 5) (gsCons (gN 6) gsNil))))
    (c_q_sums_1 R_q_step_sums R_q_sums))
def c_q_sums_3 (R_q_step_sums : Fn) (R_q_sums : Fn) : Sx :=
  (sRet (eLst (aCons (eVar 2) (aCons (eVar 3) aNil))))
def c_q_sums_4 (R_q_step_sums : Fn) (R_q_sums : Fn) : Sx :=
  (sSeq (sFor [0, 4, 5, 6] (iA (eVar 0)) (gN 4) (c_q_sums_2 R_q_step_sums R_q_sums))
    (c_q_sums_3 R_q_step_sums R_q_sums))
def c_q_sums (R_q_step_sums : Fn) (R_q_sums : Fn) : Sx :=
  (sSeq (sAsg (eTup (aCons (eC (.int 0)) (aCons (eC (.int 0)) aNil))) (gT 2 (gsCons (gN 2) (gsCons (gN 3) gsNil))))
    (c_q_sums_4 R_q_step_sums R_q_sums))
mutual
def F_q_step_sums : Nat → Fn
  | 0 => fnSt
  | n + 1 => defn 2 5 (c_q_step_sums (F_q_step_sums n) (F_q_sums n))
def F_q_sums : Nat → Fn
  | 0 => fnSt
  | n + 1 => defn 2 7 (c_q_sums (F_q_step_sums n) (F_q_sums n))
end
def c_bags_check_number : Sx :=
  (sIf (eNot (eFn F_bags_is_integer (aCons (eVar 0) aNil))) (sRaise "InvalidNumber" "value" (eVar 0))
    sNil)
def F_bags_check_number : Fn := defn 1 1 c_bags_check_number
def c_bags_level : Sx :=
  (sRet (eCall nSum (aCons (eLc [2, 3] (iA (eVar 0)) (gT 2 (gsCons (gN 2) (gsCons (gN 3) gsNil))) (eOp gLe (eVar 2) (eVar 1)) (eVar 3)) aNil)))
def F_bags_level : Fn := defn 2 4 c_bags_level
def c_bags_at_most_1 : Sx :=
  (sRet (eFn F_bags_level (aCons (eVar 0) (aCons (eVar 1) aNil))))
def c_bags_at_most_2 : Sx :=
  (sSeq (sExpr (eFn F_bags_check_number (aCons (eVar 1) aNil)))
    c_bags_at_most_1)
def c_bags_at_most : Sx :=
  (sSeq (sExpr (eFn F_bags_check_bag (aCons (eVar 0) aNil)))
    c_bags_at_most_2)
def F_bags_at_most : Fn := defn 2 2 c_bags_at_most
def c_q_parts_1 : Sx :=
  (sRet (eLst (aCons (eProp "Effect" F_Effect_inserted (eVar 1)) (aCons (eProp "Effect" F_Effect_removals (eVar 1)) (aCons (eProp "Effect" F_Effect_survivors (eVar 1)) (aCons (eProp "Effect" F_Effect_needed (eVar 1)) aNil))))))
def c_q_parts : Sx :=
  (sSeq (sAsg (eCmt "Effect" F_Effect_of (aCons (eVar 0) aNil)) (gN 1))
    c_q_parts_1)
def F_q_parts : Fn := defn 1 2 c_q_parts
def c_algebra_root_1 : Sx :=
  (sRet (eMake "Effect" F_Effect_init (aCons (eVar 2) (aCons (eVar 3) (aCons (eVar 4) aNil)))))
def c_algebra_root_2 : Sx :=
  (sSeq (sIf (eOr (eOp gIs (eVar 4) (eC .non)) (eOp gIsNot (eFn F_effects_find_fault (aCons (eVar 2) (aCons (eVar 3) (aCons (eVar 4) aNil)))) (eC .non))) (sRet (eC .non))
    sNil)
    c_algebra_root_1)
def c_algebra_root_3 : Sx :=
  (sSeq (sAsg (eFn F_bags_subtract (aCons (eProp "Effect" F_Effect_survivors (eVar 0)) (aCons (eFn F_bags_scale (aCons (eFn F_bags_drop (aCons (eVar 2) (aCons (eVar 3) aNil))) (aCons (eOp gSubI (eVar 1) (eC (.int 1))) aNil))) aNil))) (gN 4))
    c_algebra_root_2)
def c_algebra_root_4 : Sx :=
  (sSeq (sAsg (eOp gDivI (eProp "Effect" F_Effect_removals (eVar 0)) (eVar 1)) (gN 3))
    c_algebra_root_3)
def c_algebra_root_5 : Sx :=
  (sSeq (sAsg (eCall nTup (aCons (eLc [5, 6] (iA (eProp "Effect" F_Effect_inserted (eVar 0))) (gT 2 (gsCons (gN 5) (gsCons (gN 6) gsNil))) fYes (eTup (aCons (eVar 5) (aCons (eOp gDivI (eVar 6) (eVar 1)) aNil)))) aNil)) (gN 2))
    c_algebra_root_4)
def c_algebra_root_6 : Sx :=
  (sSeq (sIf (eOr (eOp gNe (eOp gModI (eProp "Effect" F_Effect_removals (eVar 0)) (eVar 1)) (eC (.int 0))) (eCall nAny (aCons (eLc [5, 6] (iA (eProp "Effect" F_Effect_inserted (eVar 0))) (gT 2 (gsCons (gN 5) (gsCons (gN 6) gsNil))) fYes (eOp gNe (eOp gModI (eVar 6) (eVar 1)) (eC (.int 0)))) aNil))) (sRet (eC .non))
    sNil)
    c_algebra_root_5)
def c_algebra_root_7 : Sx :=
  (sSeq (sIf (eOp gEq (eVar 1) (eC (.int 0))) (sRaise "InvalidCount" "value" (eVar 1))
    sNil)
    c_algebra_root_6)
def c_algebra_root_8 : Sx :=
  (sSeq (sExpr (eFn F_bags_check_count (aCons (eVar 1) aNil)))
    c_algebra_root_7)
def c_algebra_root : Sx :=
  (sSeq (sExpr (eFn F_effects_check_effects (aCons (eLst (aCons (eVar 0) aNil)) aNil)))
    c_algebra_root_8)
def F_algebra_root : Fn := defn 2 7 c_algebra_root
def c_bags_difference_1 : Sx :=
  (sRet (eFn F_bags_subtract (aCons (eVar 0) (aCons (eVar 1) aNil))))
def c_bags_difference_2 : Sx :=
  (sSeq (sExpr (eFn F_bags_check_bag (aCons (eVar 1) aNil)))
    c_bags_difference_1)
def c_bags_difference : Sx :=
  (sSeq (sExpr (eFn F_bags_check_bag (aCons (eVar 0) aNil)))
    c_bags_difference_2)
def F_bags_difference : Fn := defn 2 2 c_bags_difference
def c_q_random_program_1 (R_q_random_program : Fn) : Sx :=
  (sIf (eOp gLt (eVar 4) (eC (.int 2))) (sExpr (mAppend (eVar 2) (eTup (aCons (eC (.str "insert")) (aCons (eOp gSubI (eFn F_q_draw (aCons (eVar 0) (aCons (eC (.int 6)) aNil))) (eC (.int 2))) (aCons (eFn F_q_draw (aCons (eVar 0) (aCons (eC (.int 3)) aNil))) aNil))))))
    (sIf (eOr (eOp gLt (eVar 4) (eC (.int 4))) (eOp gEq (eVar 1) (eC (.int 0)))) (sExpr (mAppend (eVar 2) (eTup (aCons (eC (.str "remove")) (aCons (eFn F_q_draw (aCons (eVar 0) (aCons (eC (.int 3)) aNil))) aNil)))))
    (sExpr (mAppend (eVar 2) (eTup (aCons (eC (.str "repeat")) (aCons (eFn F_q_draw (aCons (eVar 0) (aCons (eC (.int 4)) aNil))) (aCons (eFn R_q_random_program (aCons (eVar 0) (aCons (eOp gSubI (eVar 1) (eC (.int 1))) aNil))) aNil))))))))
def c_q_random_program_2 (R_q_random_program : Fn) : Sx :=
  (sSeq (sAsg (eFn F_q_draw (aCons (eVar 0) (aCons (eC (.int 5)) aNil))) (gN 4))
    (c_q_random_program_1 R_q_random_program))
def c_q_random_program_3 (R_q_random_program : Fn) : Sx :=
  (sRet (eCall nTup (aCons (eVar 2) aNil)))
def c_q_random_program_4 (R_q_random_program : Fn) : Sx :=
  (sSeq (sFor [3, 4] (iR1 (eFn F_q_draw (aCons (eVar 0) (aCons (eC (.int 4)) aNil)))) (gN 3) (c_q_random_program_2 R_q_random_program))
    (c_q_random_program_3 R_q_random_program))
def c_q_random_program (R_q_random_program : Fn) : Sx :=
  (sSeq (sAsg (eNew aNil) (gN 2))
    (c_q_random_program_4 R_q_random_program))
def F_q_random_program : Nat → Fn
  | 0 => fnSt
  | n + 1 => defn 2 5 (c_q_random_program (F_q_random_program n))
def c_q_inside_v2_1 : Sx :=
  (sAsg (eOp gAdd (eVar 4) (eLc [6] (iA (eVar 1)) (gN 6) fYes (eOp gAdd (eVar 6) (eOp gMul3 (eTup (aCons (eTup (aCons (eVar 2) (aCons (eVar 5) aNil))) aNil)) (eCall nInt (aCons (eOp gGt (eVar 5) (eC (.int 0))) aNil)))))) (gN 4))
def c_q_inside_v2_2 : Sx :=
  (sAsg (eVar 4) (gN 1))
def c_q_inside_v2_3 : Sx :=
  (sSeq (sFor [0, 3, 5] (iR1 (eOp gAdd (eVar 3) (eC (.int 1)))) (gN 5) c_q_inside_v2_1)
    c_q_inside_v2_2)
def c_q_inside_v2_4 : Sx :=
  (sSeq (sAsg (eLst aNil) (gN 4))
    c_q_inside_v2_3)
def c_q_inside_v2_5 : Sx :=
  (sRet (eVar 1))
def c_q_inside_v2_6 : Sx :=
  (sSeq (sFor [0, 2, 3, 4, 5] (iA (eVar 0)) (gT 2 (gsCons (gN 2) (gsCons (gN 3) gsNil))) c_q_inside_v2_4)
    c_q_inside_v2_5)
def c_q_inside_v2 : Sx :=
  (sSeq (sAsg (eLst (aCons (eTup aNil) aNil)) (gN 1))
    c_q_inside_v2_6)
def F_q_inside_v2 : Fn := defn 1 7 c_q_inside_v2
def c_Effect_is_valid_1 : Sx :=
  (sRet (eOp gIs (eFn F_effects_find_fault (aCons (eVar 0) (aCons (eVar 1) (aCons (eVar 2) aNil)))) (eC .non)))
def c_Effect_is_valid : Sx :=
  (sSeq (sIf (eOr (eNot (eFn F_bags_is_bag (aCons (eVar 0) aNil))) (eOr (eNot (eFn F_bags_is_count (aCons (eVar 1) aNil))) (eNot (eFn F_bags_is_bag (aCons (eVar 2) aNil))))) (sRet (eC (.bl false)))
    sNil)
    c_Effect_is_valid_1)
def F_Effect_is_valid : Fn := defn 3 3 c_Effect_is_valid
def c_q_small_holds_1 : Sx :=
  (sIf (eOp (gEql "Effect" F_Effect_eq) (eFn F_algebra_power (aCons (eVar 5) (aCons (eVar 1) aNil))) (eVar 0)) (sExpr (mAppend (eVar 2) (eVar 5)))
    sNil)
def c_q_small_holds_2 : Sx :=
  (sIf (eFn F_Effect_is_valid (aCons (eVar 3) (aCons (eOp gDivI (eProp "Effect" F_Effect_removals (eVar 0)) (eVar 1)) (aCons (eVar 4) aNil)))) (sSeq (sAsg (eMake "Effect" F_Effect_init (aCons (eVar 3) (aCons (eOp gDivI (eProp "Effect" F_Effect_removals (eVar 0)) (eVar 1)) (aCons (eVar 4) aNil)))) (gN 5))
    c_q_small_holds_1)
    sNil)
def c_q_small_holds_3 : Sx :=
  (sRet (eAnd (eOp gLt (eCall nLen (aCons (eVar 2) aNil)) (eC (.int 2))) (eIf (eOp gNe2 (eVar 2) (eLst aNil)) (eOp (gEql "Effect" F_Effect_eq) (eVar 6) (eOp gIx (eVar 2) (eC (.int 0)))) (eOp gIs (eVar 6) (eC .non)))))
def c_q_small_holds_4 : Sx :=
  (sSeq (sAsg (eFn F_algebra_root (aCons (eVar 0) (aCons (eVar 1) aNil))) (gN 6))
    c_q_small_holds_3)
def c_q_small_holds_5 : Sx :=
  (sSeq (sFor [4, 5, 6] (iA (eFn F_q_inside_v2 (aCons (eVar 3) aNil))) (gN 4) c_q_small_holds_2)
    c_q_small_holds_4)
def c_q_small_holds_6 : Sx :=
  (sSeq (sAsg (eCall nTup (aCons (eLc [7, 8] (iA (eProp "Effect" F_Effect_inserted (eVar 0))) (gT 2 (gsCons (gN 7) (gsCons (gN 8) gsNil))) (eOp gGe (eVar 8) (eVar 1)) (eTup (aCons (eVar 7) (aCons (eOp gDivI (eVar 8) (eVar 1)) aNil)))) aNil)) (gN 3))
    c_q_small_holds_5)
def c_q_small_holds : Sx :=
  (sSeq (sAsg (eNew aNil) (gN 2))
    c_q_small_holds_6)
def F_q_small_holds : Fn := defn 2 9 c_q_small_holds
def c_algebra_exponent_1 : Sx :=
  (sRet (eIf (eOp gEq (eFn F_effects_repeat_parts (aCons (eFld "Effect" "own_parts" (eVar 1)) (aCons (eVar 2) aNil))) (eFld "Effect" "own_parts" (eVar 0))) (eVar 2) (eC .non)))
def c_algebra_exponent_2 : Sx :=
  (sSeq (sIf (eOp gGt (eProp "Effect" F_Effect_removals (eVar 1)) (eC (.int 0))) (sAsg (eOp gDivI (eProp "Effect" F_Effect_removals (eVar 0)) (eProp "Effect" F_Effect_removals (eVar 1))) (gN 2))
    (sAsg (eOp gDivI (eFn F_bags_total (aCons (eProp "Effect" F_Effect_inserted (eVar 0)) aNil)) (eFn F_bags_total (aCons (eProp "Effect" F_Effect_inserted (eVar 1)) aNil))) (gN 2)))
    c_algebra_exponent_1)
def c_algebra_exponent_3 : Sx :=
  (sSeq (sIf (eOp gEq (eFld "Effect" "own_parts" (eVar 1)) (eC (.tup [.tup [], .int 0, .tup []]))) (sRet (eC .non))
    sNil)
    c_algebra_exponent_2)
def c_algebra_exponent_4 : Sx :=
  (sSeq (sIf (eOp gEq (eFld "Effect" "own_parts" (eVar 0)) (eC (.tup [.tup [], .int 0, .tup []]))) (sRet (eC (.int 0)))
    sNil)
    c_algebra_exponent_3)
def c_algebra_exponent : Sx :=
  (sSeq (sExpr (eFn F_effects_check_effects (aCons (eLst (aCons (eVar 0) (aCons (eVar 1) aNil))) aNil)))
    c_algebra_exponent_4)
def F_algebra_exponent : Fn := defn 2 3 c_algebra_exponent
def c_q_least_1 : Sx :=
  (sIf (eOp (gEql "Effect" F_Effect_eq) (eFn F_algebra_power (aCons (eVar 1) (aCons (eVar 3) aNil))) (eVar 0)) (sRet (eVar 3))
    sNil)
def c_q_least_2 : Sx :=
  (sRet (eC .non))
def c_q_least : Sx :=
  (sSeq (sFor [2, 3] (iR1 (eOp gAdd (eVar 2) (eC (.int 1)))) (gN 3) c_q_least_1)
    c_q_least_2)
def F_q_least : Fn := defn 3 4 c_q_least
def c_bags_take_1 : Sx :=
  (sAug 2 gSubI (eOp gIx (eOp gIx (eVar 3) (eNeg (eC (.int 1)))) (eC (.int 1))))
def c_bags_take_2 : Sx :=
  (sIf (eOp gGt (eVar 2) (eC (.int 0))) (sSeq (sExpr (mAppend (eVar 3) (eTup (aCons (eVar 4) (aCons (eCall nMin2 (aCons (eVar 2) (aCons (eVar 5) aNil))) aNil)))))
    c_bags_take_1)
    sNil)
def c_bags_take_3 : Sx :=
  (sRet (eCall nTup (aCons (eVar 3) aNil)))
def c_bags_take_4 : Sx :=
  (sSeq (sFor [0, 1, 4, 5] (iA (eVar 0)) (gT 2 (gsCons (gN 4) (gsCons (gN 5) gsNil))) c_bags_take_2)
    c_bags_take_3)
def c_bags_take : Sx :=
  (sSeq (sPar 2 3 (aCons (eVar 1) (aCons (eNew aNil) aNil)))
    c_bags_take_4)
def F_bags_take : Fn := defn 2 6 c_bags_take
def c_Effect_removed : Sx :=
  (sRet (eFn F_bags_take (aCons (eMeth "Effect" "pool" F_Effect_pool (eVar 0) (aCons (eVar 1) aNil)) (aCons (eProp "Effect" F_Effect_removals (eVar 0)) aNil))))
def F_Effect_removed : Fn := defn 2 2 c_Effect_removed
def c_bags_union_1 : Sx :=
  (sAsg (eFn F_bags_add (aCons (eVar 1) (aCons (eVar 2) aNil))) (gN 1))
def c_bags_union_2 : Sx :=
  (sSeq (sExpr (eFn F_bags_check_bag (aCons (eVar 2) aNil)))
    c_bags_union_1)
def c_bags_union_3 : Sx :=
  (sRet (eVar 1))
def c_bags_union_4 : Sx :=
  (sSeq (sFor [0, 2] (iA (eVar 0)) (gN 2) c_bags_union_2)
    c_bags_union_3)
def c_bags_union : Sx :=
  (sSeq (sAsg (eTup aNil) (gN 1))
    c_bags_union_4)
def F_bags_union : Fn := starF 0 3 c_bags_union
def c_q_draw_v2_1 : Sx :=
  (sRet (eOp gModI (eOp gDivI (eOp gModI (eOp gMul (eOp gIx (eVar 0) (eC (.int 3))) (eOp gIx (eVar 0) (eC (.int 3)))) (eC (.int 2147483629))) (eC (.int 7))) (eVar 1)))
def c_q_draw_v2_2 : Sx :=
  (sAsg (eVar 2) (gSub (eVar 0) (eC (.int 2))))
def c_q_draw_v2_3 : Sx :=
  (sSeq (sIf (eOp gLt (eVar 2) (eOp gPowI (eC (.int 10)) (eC (.int 18)))) (sSeq (sAsg (eOp gModI (eOp gAdd (eOp gAdd (eOp gMul (eOp gIx (eVar 0) (eC (.int 3))) (eC (.int 48271))) (eOp gModI (eVar 2) (eC (.int 2147483629)))) (eOp gIx (eVar 0) (eC (.int 1)))) (eC (.int 2147483647))) (gSub (eVar 0) (eC (.int 3))))
    c_q_draw_v2_1)
    sNil)
    c_q_draw_v2_2)
def c_q_draw_v2_4 : Sx :=
  (sSeq (sAsg (eOp gAdd (eOp gIx (eVar 0) (eC (.int 1))) (eC (.int 1))) (gSub (eVar 0) (eC (.int 1))))
    c_q_draw_v2_3)
def c_q_draw_v2_5 : Sx :=
  (sRet (eVar 3))
def c_q_draw_v2_6 : Sx :=
  (sSeq (sAsg (eOp gDivI (eOp gIx (eVar 0) (eC (.int 2))) (eVar 1)) (gSub (eVar 0) (eC (.int 2))))
    c_q_draw_v2_5)
def c_q_draw_v2_7 : Sx :=
  (sSeq (sAsg (eOp gModI (eOp gIx (eVar 0) (eC (.int 2))) (eVar 1)) (gN 3))
    c_q_draw_v2_6)
def c_q_draw_v2 : Sx :=
  (sSeq (sIf (eOp gEq (eOp gIx (eVar 0) (eC (.int 2))) (eC (.int 0))) (sSeq (sAsg (eIf (eOp gLt (eOp gIx (eVar 0) (eC (.int 1))) (eCall nLen (aCons (eOp gIx (eVar 0) (eC (.int 0))) aNil))) (eOp gIx (eOp gIx (eVar 0) (eC (.int 0))) (eOp gIx (eVar 0) (eC (.int 1)))) (eC (.int 0))) (gN 2))
    c_q_draw_v2_4)
    sNil)
    c_q_draw_v2_7)
def F_q_draw_v2 : Fn := defn 2 4 c_q_draw_v2
def c_q_base : Sx :=
  (sRet (eOp gIx (eLst (aCons (eC (.int 0)) (aCons (eNeg (eC (.int 2))) (aCons (eOp gPowI (eC (.int 10)) (eC (.int 25))) (aCons (eOp gAdd (eOp gSubI (eC (.int 0)) (eOp gPowI (eC (.int 10)) (eC (.int 25)))) (eFn F_q_draw_v2 (aCons (eVar 0) (aCons (eOp gPowI (eC (.int 10)) (eC (.int 6))) aNil)))) aNil))))) (eFn F_q_draw_v2 (aCons (eVar 0) (aCons (eC (.int 4)) aNil)))))
def F_q_base : Fn := defn 1 1 c_q_base
def c_q_steps_1 : Sx :=
  (sIf (eOp gLt (eFn F_q_draw_v2 (aCons (eVar 0) (aCons (eC (.int 4)) aNil))) (eVar 4)) (sExpr (mAppend (eVar 5) (eTup (aCons (eC (.str "insert")) (aCons (eOp gAdd (eVar 3) (eFn F_q_draw_v2 (aCons (eVar 0) (aCons (eVar 2) aNil)))) (aCons (eC (.int 1)) aNil))))))
    (sExpr (mAppend (eVar 5) (eTup (aCons (eC (.str "remove")) (aCons (eC (.int 1)) aNil))))))
def c_q_steps_2 : Sx :=
  (sRet (eVar 5))
def c_q_steps_3 : Sx :=
  (sSeq (sFor [1, 6] (iR1 (eVar 1)) (gN 6) c_q_steps_1)
    c_q_steps_2)
def c_q_steps_4 : Sx :=
  (sSeq (sAsg (eNew aNil) (gN 5))
    c_q_steps_3)
def c_q_steps_5 : Sx :=
  (sSeq (sAsg (eFn F_q_draw_v2 (aCons (eVar 0) (aCons (eC (.int 5)) aNil))) (gN 4))
    c_q_steps_4)
def c_q_steps : Sx :=
  (sSeq (sAsg (eFn F_q_base (aCons (eVar 0) aNil)) (gN 3))
    c_q_steps_5)
def F_q_steps : Fn := defn 3 7 c_q_steps
def c_q_bag : Sx :=
  (sRet (eCall nTup (aCons (eLc [1] (iA (eCall nSrtU (aCons (eVar 0) aNil))) (gN 1) fYes (eTup (aCons (eVar 1) (aCons (mCount (eVar 0) (eVar 1)) aNil)))) aNil)))
def F_q_bag : Fn := defn 1 2 c_q_bag
def c_q_triple_1 : Sx :=
  (sIf (eOp gEq (eOp gIx (eVar 3) (eC (.int 0))) (eC (.str "insert"))) (sAsg (eCall nSorted (aCons (eOp gAdd (eVar 2) (eLst (aCons (eOp gIx (eVar 3) (eC (.int 1))) aNil))) aNil)) (gN 2))
    (sAsg (eSl (eVar 2) (oSome (eC (.int 1))) oNone) (gN 2)))
def c_q_triple_2 : Sx :=
  (sRet (eTup (aCons (eFn F_q_bag (aCons (eVar 1) aNil)) (aCons (eOp gSubI (eCall nLen (aCons (eVar 0) aNil)) (eCall nLen (aCons (eVar 1) aNil))) (aCons (eFn F_q_bag (aCons (eVar 2) aNil)) aNil)))))
def c_q_triple_3 : Sx :=
  (sSeq (sFor [3] (iA (eVar 0)) (gN 3) c_q_triple_1)
    c_q_triple_2)
def c_q_triple_4 : Sx :=
  (sSeq (sAsg (eLst aNil) (gN 2))
    c_q_triple_3)
def c_q_triple : Sx :=
  (sSeq (sAsg (eLc [3] (iA (eVar 0)) (gN 3) (eOp gEq (eOp gIx (eVar 3) (eC (.int 0))) (eC (.str "insert"))) (eOp gIx (eVar 3) (eC (.int 1)))) (gN 1))
    c_q_triple_4)
def F_q_triple : Fn := defn 1 4 c_q_triple
def c_q_run_v4_1 : Sx :=
  (sAsg (eSl (eVar 2) (oSome (eC (.int 1))) oNone) (gN 2))
def c_q_run_v4_2 : Sx :=
  (sIf (eOp gEq (eOp gIx (eOp gIx (eVar 1) (eVar 4)) (eC (.int 0))) (eC (.str "insert"))) (sAsg (eCall nSorted (aCons (eOp gAdd (eVar 2) (eLst (aCons (eOp gIx (eOp gIx (eVar 1) (eVar 4)) (eC (.int 1))) aNil))) aNil)) (gN 2))
    (sIf (eOp gEq (eVar 2) (eLst aNil)) (sRet (eLst (aCons (eC .non) (aCons (eVar 3) (aCons (eVar 4) aNil)))))
    (sSeq (sExpr (mAppend (eVar 3) (eOp gIx (eVar 2) (eC (.int 0)))))
    c_q_run_v4_1)))
def c_q_run_v4_3 : Sx :=
  (sRet (eLst (aCons (eVar 2) (aCons (eVar 3) (aCons (eC .non) aNil)))))
def c_q_run_v4_4 : Sx :=
  (sSeq (sFor [0, 4] (iR1 (eCall nLen (aCons (eVar 1) aNil))) (gN 4) c_q_run_v4_2)
    c_q_run_v4_3)
def c_q_run_v4_5 : Sx :=
  (sSeq (sAsg (eNew aNil) (gN 3))
    c_q_run_v4_4)
def c_q_run_v4 : Sx :=
  (sSeq (sAsg (eCall nSortedT (aCons (eVar 0) aNil)) (gN 2))
    c_q_run_v4_5)
def F_q_run_v4 : Fn := defn 2 5 c_q_run_v4
def c_plans_preimage_1 : Sx :=
  (sRet (eFn F_bags_add (aCons (eVar 5) (aCons (eFn F_bags_scale (aCons (eTup (aCons (eTup (aCons (eVar 3) (aCons (eC (.int 1)) aNil))) aNil)) (aCons (eOp gSubI (eProp "Effect" F_Effect_removals (eVar 0)) (eFn F_bags_level (aCons (eProp "Effect" F_Effect_consumed (eVar 0)) (aCons (eVar 3) aNil)))) aNil))) aNil))))
def c_plans_preimage_2 : Sx :=
  (sSeq (sIf (eOp gIs (eVar 5) (eC .non)) (sRet (eC .non))
    sNil)
    c_plans_preimage_1)
def c_plans_preimage_3 : Sx :=
  (sSeq (sAsg (eFn F_bags_subtract (aCons (eVar 2) (aCons (eVar 4) aNil))) (gN 5))
    c_plans_preimage_2)
def c_plans_preimage_4 : Sx :=
  (sSeq (sAsg (eCall nTup (aCons (eLc [6] (iA (eProp "Effect" F_Effect_consumed (eVar 0))) (gN 6) (eOp gGt (eOp gIx (eVar 6) (eC (.int 0))) (eVar 3)) (eVar 6)) aNil)) (gN 4))
    c_plans_preimage_3)
def c_plans_preimage_5 : Sx :=
  (sSeq (sAsg (eOp gIx (eOp gIx (eVar 2) (eC (.int 0))) (eC (.int 0))) (gN 3))
    c_plans_preimage_4)
def c_plans_preimage_6 : Sx :=
  (sSeq (sIf (eOp gEq (eVar 2) (eTup aNil)) (sRet (eFn F_bags_scale (aCons (eTup (aCons (eTup (aCons (eC (.int 0)) (aCons (eC (.int 1)) aNil))) aNil)) (aCons (eProp "Effect" F_Effect_needed (eVar 0)) aNil))))
    sNil)
    c_plans_preimage_5)
def c_plans_preimage_7 : Sx :=
  (sSeq (sIf (eOp gIs (eVar 2) (eC .non)) (sRet (eC .non))
    sNil)
    c_plans_preimage_6)
def c_plans_preimage_8 : Sx :=
  (sSeq (sAsg (eFn F_bags_subtract (aCons (eVar 1) (aCons (eProp "Effect" F_Effect_survivors (eVar 0)) aNil))) (gN 2))
    c_plans_preimage_7)
def c_plans_preimage_9 : Sx :=
  (sSeq (sExpr (eFn F_bags_check_bag (aCons (eVar 1) aNil)))
    c_plans_preimage_8)
def c_plans_preimage : Sx :=
  (sSeq (sExpr (eFn F_effects_check_effects (aCons (eLst (aCons (eVar 0) aNil)) aNil)))
    c_plans_preimage_9)
def F_plans_preimage : Fn := defn 2 7 c_plans_preimage
def c_q_list_v2_1 : Sx :=
  (sAsg (eOp gAdd (eVar 1) (eOp gMul (eLst (aCons (eVar 2) aNil)) (eVar 3))) (gN 1))
def c_q_list_v2_2 : Sx :=
  (sRet (eVar 1))
def c_q_list_v2_3 : Sx :=
  (sSeq (sFor [0, 2, 3] (iA (eVar 0)) (gT 2 (gsCons (gN 2) (gsCons (gN 3) gsNil))) c_q_list_v2_1)
    c_q_list_v2_2)
def c_q_list_v2 : Sx :=
  (sSeq (sAsg (eLst aNil) (gN 1))
    c_q_list_v2_3)
def F_q_list_v2 : Fn := defn 1 4 c_q_list_v2
def c_q_bags_1 : Sx :=
  (sAsg (eOp gAdd (eVar 4) (eLc [6] (iA (eVar 0)) (gN 6) (eOr (eOp gEq (eVar 5) (eTup aNil)) (eOp gGe (eVar 6) (eOp gIx (eVar 5) (eNeg (eC (.int 1)))))) (eOp gAdd (eVar 5) (eTup (aCons (eVar 6) aNil))))) (gN 4))
def c_q_bags_2 : Sx :=
  (sAsg (eVar 4) (gN 2))
def c_q_bags_3 : Sx :=
  (sSeq (sFor [1, 2, 3, 5] (iA (eVar 2)) (gN 5) c_q_bags_1)
    c_q_bags_2)
def c_q_bags_4 : Sx :=
  (sSeq (sAsg (eLst aNil) (gN 4))
    c_q_bags_3)
def c_q_bags_5 : Sx :=
  (sRet (eVar 2))
def c_q_bags_6 : Sx :=
  (sSeq (sFor [1, 3, 4, 5] (iR1 (eVar 1)) (gN 3) c_q_bags_4)
    c_q_bags_5)
def c_q_bags : Sx :=
  (sSeq (sAsg (eLst (aCons (eTup aNil) aNil)) (gN 2))
    c_q_bags_6)
def F_q_bags : Fn := defn 2 7 c_q_bags
def c_algebra_commute_1 : Sx :=
  (sRet (eOp gEq (eFn F_effects_join_parts (aCons (eFld "Effect" "own_parts" (eVar 0)) (aCons (eFld "Effect" "own_parts" (eVar 1)) aNil))) (eFn F_effects_join_parts (aCons (eFld "Effect" "own_parts" (eVar 1)) (aCons (eFld "Effect" "own_parts" (eVar 0)) aNil)))))
def c_algebra_commute : Sx :=
  (sSeq (sExpr (eFn F_effects_check_effects (aCons (eLst (aCons (eVar 0) (aCons (eVar 1) aNil))) aNil)))
    c_algebra_commute_1)
def F_algebra_commute : Fn := defn 2 2 c_algebra_commute
def c_q_expanded_1 (R_q_expanded : Fn) : Sx :=
  (sIf (eOp gEq (eOp gIx (eVar 2) (eC (.int 0))) (eC (.str "repeat"))) (sAsg (eOp gAdd (eVar 1) (eOp gMul (eFn R_q_expanded (aCons (eOp gIx (eVar 2) (eC (.int 2))) aNil)) (eOp gIx (eVar 2) (eC (.int 1))))) (gN 1))
    (sAsg (eOp gAdd (eVar 1) (eOp gMul (eLst (aCons (eOp gAdd (eSl (eVar 2) oNone (oSome (eNeg (eC (.int 1))))) (eTup (aCons (eC (.int 1)) aNil))) aNil)) (eOp gIx (eVar 2) (eNeg (eC (.int 1)))))) (gN 1)))
def c_q_expanded_2 (R_q_expanded : Fn) : Sx :=
  (sRet (eVar 1))
def c_q_expanded_3 (R_q_expanded : Fn) : Sx :=
  (sSeq (sFor [0, 2] (iA (eVar 0)) (gN 2) (c_q_expanded_1 R_q_expanded))
    (c_q_expanded_2 R_q_expanded))
def c_q_expanded (R_q_expanded : Fn) : Sx :=
  (sSeq (sAsg (eLst aNil) (gN 1))
    (c_q_expanded_3 R_q_expanded))
def F_q_expanded : Nat → Fn
  | 0 => fnSt
  | n + 1 => defn 1 3 (c_q_expanded (F_q_expanded n))
def c_q_run_v2_1 : Sx :=
  (sAsg (eSl (eVar 2) (oSome (eC (.int 1))) oNone) (gN 2))
def c_q_run_v2_2 : Sx :=
  (sIf (eOp gEq (eOp gIx (eVar 5) (eC (.int 0))) (eC (.str "insert"))) (sAsg (eCall nSorted (aCons (eOp gAdd (eVar 2) (eLst (aCons (eOp gIx (eVar 5) (eC (.int 1))) aNil))) aNil)) (gN 2))
    (sIf (eOp gEq (eVar 2) (eLst aNil)) (sRet (eLst (aCons (eC .non) (aCons (eVar 4) aNil))))
    (sSeq (sExpr (mAppend (eVar 3) (eOp gIx (eVar 2) (eC (.int 0)))))
    c_q_run_v2_1)))
def c_q_run_v2_3 : Sx :=
  (sRet (eLst (aCons (eVar 2) (aCons (eVar 3) aNil))))
def c_q_run_v2_4 : Sx :=
  (sSeq (sFor [0, 1, 4, 5] (iEnA (eVar 1)) (gT 2 (gsCons (gN 4) (gsCons (gN 5) gsNil))) c_q_run_v2_2)
    c_q_run_v2_3)
def c_q_run_v2 : Sx :=
  (sSeq (sPar 2 3 (aCons (eCall nSorted (aCons (eVar 0) aNil)) (aCons (eNew aNil) aNil)))
    c_q_run_v2_4)
def F_q_run_v2 : Fn := defn 2 6 c_q_run_v2
def c_q_left_1 : Sx :=
  (sRet (eFn F_q_bag (aCons (eLc [4] (iA (eVar 2)) (gN 4) (eOp gLt (eVar 4) (eVar 1)) (eVar 4)) aNil)))
def c_q_left_2 : Sx :=
  (sSeq (sAsg (eOp gIx (eFn F_q_run_v2 (aCons (eOp gMul (eLst (aCons (eVar 1) aNil)) (eCall nLen (aCons (eVar 0) aNil))) (aCons (eVar 0) aNil))) (eC (.int 0))) (gN 2))
    c_q_left_1)
def c_q_left : Sx :=
  (sSeq (sAsg (eOp gAdd (eCall nMax (aCons (eOp gAdd (eLst (aCons (eC (.int 0)) aNil)) (eLc [3] (iA (eVar 0)) (gN 3) (eOp gEq (eOp gIx (eVar 3) (eC (.int 0))) (eC (.str "insert"))) (eOp gIx (eVar 3) (eC (.int 1))))) aNil)) (eC (.int 1))) (gN 1))
    c_q_left_2)
def F_q_left : Fn := defn 1 5 c_q_left
def c_effects_insert_steps : Sx :=
  (sRet (eCall nTup (aCons (eLc [1, 2] (iA (eVar 0)) (gT 2 (gsCons (gN 1) (gsCons (gN 2) gsNil))) fYes (eTup (aCons (eC (.str "insert")) (aCons (eVar 1) (aCons (eVar 2) aNil))))) aNil)))
def F_effects_insert_steps : Fn := defn 1 3 c_effects_insert_steps
def c_Effect_normal_1 : Sx :=
  (sRet (eOp gAdd (eOp gAdd (eFn F_effects_insert_steps (aCons (eProp "Effect" F_Effect_consumed (eVar 0)) aNil)) (eVar 1)) (eFn F_effects_insert_steps (aCons (eProp "Effect" F_Effect_survivors (eVar 0)) aNil))))
def c_Effect_normal : Sx :=
  (sSeq (sAsg (eIf (eOp gGt (eProp "Effect" F_Effect_removals (eVar 0)) (eC (.int 0))) (eTup (aCons (eTup (aCons (eC (.str "remove")) (aCons (eProp "Effect" F_Effect_removals (eVar 0)) aNil))) aNil)) (eTup aNil)) (gN 1))
    c_Effect_normal_1)
def F_Effect_normal : Fn := defn 1 2 c_Effect_normal
def c_q_made_v3_1 : Sx :=
  (sExpr (eMake "Effect" F_Effect_init (aCons (eVar 0) (aCons (eVar 1) (aCons (eVar 2) aNil)))))
def c_q_made_v3_2 : Sx :=
  (sRet (eC .non))
def c_q_made_v3 : Sx :=
  (sSeq (sTry ["InvalidCount", "InvalidBag", "InvalidProgram", "InvalidEffect"] c_q_made_v3_1 [⟨"InvalidEffect", some 3, fun x => (sRet (xRd 3 "part" x))⟩])
    c_q_made_v3_2)
def F_q_made_v3 : Fn := defn 3 4 c_q_made_v3
def c_q_edges_hold_1 : Sx :=
  (sIf (eOp gNe (eFn F_q_made_v3 (aCons (eProp "Effect" F_Effect_inserted (eVar 0)) (aCons (eProp "Effect" F_Effect_removals (eVar 0)) (aCons (eVar 4) aNil)))) (eC (.str "survivors"))) (sRet (eC (.bl false)))
    sNil)
def c_q_edges_hold_2 : Sx :=
  (sSeq (sIf (eOp gIsNot (eFn F_Effect_is_valid (aCons (eProp "Effect" F_Effect_inserted (eVar 0)) (aCons (eProp "Effect" F_Effect_removals (eVar 0)) (aCons (eVar 4) aNil)))) (eC (.bl false))) (sRet (eC (.bl false)))
    sNil)
    c_q_edges_hold_1)
def c_q_edges_hold_3 : Sx :=
  (sSeq (sAsg (eOp gAdd (eCall nTup (aCons (eLc [5] (iA (eProp "Effect" F_Effect_inserted (eVar 0))) (gN 5) (eOp gLt (eOp gIx (eVar 5) (eC (.int 0))) (eVar 2)) (eVar 5)) aNil)) (eTup (aCons (eTup (aCons (eVar 2) (aCons (eOp gAdd (eVar 3) (eC (.int 1))) aNil))) aNil))) (gN 4))
    c_q_edges_hold_2)
def c_q_edges_hold_4 : Sx :=
  (sRet (eC (.bl true)))
def c_q_edges_hold_5 : Sx :=
  (sSeq (sFor [1, 2, 3, 4] (iA (eProp "Effect" F_Effect_inserted (eVar 0))) (gT 2 (gsCons (gN 2) (gsCons (gN 3) gsNil))) c_q_edges_hold_3)
    c_q_edges_hold_4)
def c_q_edges_hold_6 : Sx :=
  (sSeq (sIf (eAnd (eOp gGt (eVar 1) (eC (.int 0))) (eOp gNe (eFn F_q_made_v3 (aCons (eProp "Effect" F_Effect_inserted (eVar 0)) (aCons (eOp gSubI (eVar 1) (eC (.int 1))) (aCons (eProp "Effect" F_Effect_survivors (eVar 0)) aNil)))) (eC (.str "removals")))) (sRet (eC (.bl false)))
    sNil)
    c_q_edges_hold_5)
def c_q_edges_hold_7 : Sx :=
  (sSeq (sIf (eAnd (eOp gGt (eVar 1) (eC (.int 0))) (eOp gIsNot (eFn F_Effect_is_valid (aCons (eProp "Effect" F_Effect_inserted (eVar 0)) (aCons (eOp gSubI (eVar 1) (eC (.int 1))) (aCons (eProp "Effect" F_Effect_survivors (eVar 0)) aNil)))) (eC (.bl false)))) (sRet (eC (.bl false)))
    sNil)
    c_q_edges_hold_6)
def c_q_edges_hold_8 : Sx :=
  (sSeq (sIf (eOp gIsNot (eFn F_Effect_is_valid (aCons (eProp "Effect" F_Effect_inserted (eVar 0)) (aCons (eVar 1) (aCons (eProp "Effect" F_Effect_survivors (eVar 0)) aNil)))) (eC (.bl true))) (sRet (eC (.bl false)))
    sNil)
    c_q_edges_hold_7)
def c_q_edges_hold : Sx :=
  (sSeq (sAsg (eCall nSum (aCons (eLc [2, 3] (iA (eProp "Effect" F_Effect_consumed (eVar 0))) (gT 2 (gsCons (gN 2) (gsCons (gN 3) gsNil))) fYes (eVar 3)) aNil)) (gN 1))
    c_q_edges_hold_8)
def F_q_edges_hold : Fn := defn 1 6 c_q_edges_hold
def c_q_random_numbers : Sx :=
  (sRet (eLc [3] (iR1 (eVar 1)) (gN 3) fYes (eOp gSubI (eFn F_q_draw (aCons (eVar 0) (aCons (eVar 2) aNil))) (eOp gDivI (eVar 2) (eC (.int 2))))))
def F_q_random_numbers : Fn := defn 3 4 c_q_random_numbers
def c_q_run_1 : Sx :=
  (sAsg (eSl (eVar 2) (oSome (eC (.int 1))) oNone) (gN 2))
def c_q_run_2 : Sx :=
  (sIf (eOp gEq (eOp gIx (eVar 5) (eC (.int 0))) (eC (.str "insert"))) (sAsg (eCall nSorted (aCons (eOp gAdd (eVar 2) (eLst (aCons (eOp gIx (eVar 5) (eC (.int 1))) aNil))) aNil)) (gN 2))
    (sIf (eOp gEq (eVar 2) (eLst aNil)) (sRet (eLst (aCons (eC .non) (aCons (eVar 4) aNil))))
    (sSeq (sExpr (mAppend (eVar 3) (eOp gIx (eVar 2) (eC (.int 0)))))
    c_q_run_1)))
def c_q_run_3 : Sx :=
  (sRet (eLst (aCons (eVar 2) (aCons (eVar 3) aNil))))
def c_q_run_4 : Sx :=
  (sSeq (sFor [0, 1, 4, 5] (iEnA (eVar 1)) (gT 2 (gsCons (gN 4) (gsCons (gN 5) gsNil))) c_q_run_2)
    c_q_run_3)
def c_q_run : Sx :=
  (sSeq (sPar 2 3 (aCons (eCall nSorted (aCons (eVar 0) aNil)) (aCons (eNew aNil) aNil)))
    c_q_run_4)
def F_q_run : Fn := defn 2 6 c_q_run
def c_q_outcome_v5_1 : Sx :=
  (sRet (eLst (aCons (eMeth "Effect" "apply" F_Effect_apply (eVar 0) (aCons (eVar 1) aNil)) (aCons (eMeth "Effect" "removed" F_Effect_removed (eVar 0) (aCons (eVar 1) aNil)) aNil))))
def c_q_outcome_v5 : Sx :=
  (sTry ["InvalidCount", "InvalidBag", "InvalidProgram", "InvalidEffect", "EmptyHeap"] c_q_outcome_v5_1 [⟨"EmptyHeap", some 2, fun x => (sRet (eLst (aCons (eC .non) (aCons (xRd 2 "index" x) aNil))))⟩])
def F_q_outcome_v5 : Fn := defn 2 3 c_q_outcome_v5
def c_q_reached_1 (R_q_reached : Fn) : Sx :=
  (sAsg (eOp gAdd (eVar 3) (eFn R_q_reached (aCons (eVar 5) (aCons (eVar 1) (aCons (eCall nSorted (aCons (eOp gAdd (eVar 2) (eLst (aCons (eVar 4) aNil))) aNil)) aNil))))) (gN 3))
def c_q_reached_2 (R_q_reached : Fn) : Sx :=
  (sSeq (sExpr (mRemove (eVar 5) (eVar 4)))
    (c_q_reached_1 R_q_reached))
def c_q_reached_3 (R_q_reached : Fn) : Sx :=
  (sSeq (sAsg (eCall nListN (aCons (eVar 0) aNil)) (gN 5))
    (c_q_reached_2 R_q_reached))
def c_q_reached_4 (R_q_reached : Fn) : Sx :=
  (sRet (eVar 3))
def c_q_reached_5 (R_q_reached : Fn) : Sx :=
  (sSeq (sIf (eOp gGt (eVar 1) (eC (.int 0))) (sAsg (eOp gAdd (eVar 3) (eFn R_q_reached (aCons (eVar 0) (aCons (eOp gSubI (eVar 1) (eC (.int 1))) (aCons (eSl (eVar 2) (oSome (eC (.int 1))) oNone) aNil))))) (gN 3))
    sNil)
    (c_q_reached_4 R_q_reached))
def c_q_reached_6 (R_q_reached : Fn) : Sx :=
  (sSeq (sFor [4, 5] (iA (eCall nSrtU (aCons (eVar 0) aNil))) (gN 4) (c_q_reached_3 R_q_reached))
    (c_q_reached_5 R_q_reached))
def c_q_reached_7 (R_q_reached : Fn) : Sx :=
  (sSeq (sAsg (eLst aNil) (gN 3))
    (c_q_reached_6 R_q_reached))
def c_q_reached (R_q_reached : Fn) : Sx :=
  (sSeq (sIf (eAnd (eOp gEq (eVar 0) (eLst aNil)) (eOp gEq (eVar 1) (eC (.int 0)))) (sRet (eLst (aCons (eVar 2) aNil)))
    sNil)
    (c_q_reached_7 R_q_reached))
def F_q_reached : Nat → Fn
  | 0 => fnSt
  | n + 1 => defn 3 6 (c_q_reached (F_q_reached n))
def c_q_inside_1 : Sx :=
  (sAsg (eOp gAdd (eVar 1) (eLc [3] (iA (eVar 1)) (gN 3) fYes (eOp gAdd (eVar 3) (eLst (aCons (eVar 2) aNil))))) (gN 1))
def c_q_inside_2 : Sx :=
  (sRet (eVar 1))
def c_q_inside_3 : Sx :=
  (sSeq (sFor [0, 2] (iA (eVar 0)) (gN 2) c_q_inside_1)
    c_q_inside_2)
def c_q_inside : Sx :=
  (sSeq (sAsg (eLst (aCons (eLst aNil) aNil)) (gN 1))
    c_q_inside_3)
def F_q_inside : Fn := defn 1 4 c_q_inside
def c_q_made_v2_1 : Sx :=
  (sAsg (eMake "Effect" F_Effect_init (aCons (eVar 0) (aCons (eVar 1) (aCons (eVar 2) aNil)))) (gN 3))
def c_q_made_v2_2 : Sx :=
  (sRet (eOp gEq (eLst (aCons (eProp "Effect" F_Effect_inserted (eVar 3)) (aCons (eProp "Effect" F_Effect_removals (eVar 3)) (aCons (eProp "Effect" F_Effect_survivors (eVar 3)) aNil)))) (eLst (aCons (eVar 0) (aCons (eVar 1) (aCons (eVar 2) aNil))))))
def c_q_made_v2 : Sx :=
  (sSeq (sTry ["InvalidCount", "InvalidBag", "InvalidProgram", "InvalidEffect"] c_q_made_v2_1 [⟨"InvalidEffect", some 4, fun x => (sRet (xRd 4 "part" x))⟩])
    c_q_made_v2_2)
def F_q_made_v2 : Fn := defn 3 5 c_q_made_v2
def c_q_program_1 (R_q_program : Fn) : Sx :=
  (sAsg (eOp gAdd (eVar 4) (eTup (aCons (eVar 7) aNil))) (gN 4))
def c_q_program_2 (R_q_program : Fn) : Sx :=
  (sSeq (sIf (eAnd (eOp gEq (eVar 6) (eC (.int 4))) (eOp gGt (eVar 1) (eC (.int 1)))) (sAsg (eTup (aCons (eC (.str "repeat")) (aCons (eFn F_q_draw_v2 (aCons (eVar 0) (aCons (eC (.int 3)) aNil))) (aCons (eFn R_q_program (aCons (eVar 0) (aCons (eOp gSubI (eVar 1) (eC (.int 1))) (aCons (eVar 2) (aCons (eVar 3) aNil))))) aNil)))) (gN 7))
    (sIf (eOp gEq (eOp gModI (eVar 6) (eC (.int 2))) (eC (.int 0))) (sAsg (eTup (aCons (eC (.str "insert")) (aCons (eOp gAdd (eVar 2) (eFn F_q_draw_v2 (aCons (eVar 0) (aCons (eVar 3) aNil)))) (aCons (eOp gIx (eVar 7) (eC (.int 1))) aNil)))) (gN 7))
    sNil))
    (c_q_program_1 R_q_program))
def c_q_program_3 (R_q_program : Fn) : Sx :=
  (sSeq (sAsg (eTup (aCons (eC (.str "remove")) (aCons (eOp gIx (eLst (aCons (eC (.int 1)) (aCons (eC (.int 1)) (aCons (eC (.int 2)) (aCons (eC (.int 0)) aNil))))) (eFn F_q_draw_v2 (aCons (eVar 0) (aCons (eC (.int 4)) aNil)))) aNil))) (gN 7))
    (c_q_program_2 R_q_program))
def c_q_program_4 (R_q_program : Fn) : Sx :=
  (sSeq (sAsg (eFn F_q_draw_v2 (aCons (eVar 0) (aCons (eC (.int 5)) aNil))) (gN 6))
    (c_q_program_3 R_q_program))
def c_q_program_5 (R_q_program : Fn) : Sx :=
  (sRet (eVar 4))
def c_q_program_6 (R_q_program : Fn) : Sx :=
  (sSeq (sFor [5, 6, 7] (iR1 (eFn F_q_draw_v2 (aCons (eVar 0) (aCons (eC (.int 4)) aNil)))) (gN 5) (c_q_program_4 R_q_program))
    (c_q_program_5 R_q_program))
def c_q_program (R_q_program : Fn) : Sx :=
  (sSeq (sAsg (eTup aNil) (gN 4))
    (c_q_program_6 R_q_program))
def F_q_program : Nat → Fn
  | 0 => fnSt
  | n + 1 => defn 4 8 (c_q_program (F_q_program n))
def c_q_expand_1 (R_q_expand : Fn) : Sx :=
  (sIf (eOp gEq (eOp gIx (eVar 2) (eC (.int 0))) (eC (.str "repeat"))) (sAsg (eOp gAdd (eVar 1) (eOp gMul (eFn R_q_expand (aCons (eOp gIx (eVar 2) (eC (.int 2))) aNil)) (eOp gIx (eVar 2) (eC (.int 1))))) (gN 1))
    (sAsg (eOp gAdd (eVar 1) (eOp gMul (eLst (aCons (eOp gAdd (eSl (eVar 2) oNone (oSome (eNeg (eC (.int 1))))) (eTup (aCons (eC (.int 1)) aNil))) aNil)) (eOp gIx (eVar 2) (eNeg (eC (.int 1)))))) (gN 1)))
def c_q_expand_2 (R_q_expand : Fn) : Sx :=
  (sRet (eVar 1))
def c_q_expand_3 (R_q_expand : Fn) : Sx :=
  (sSeq (sFor [0, 2] (iA (eVar 0)) (gN 2) (c_q_expand_1 R_q_expand))
    (c_q_expand_2 R_q_expand))
def c_q_expand (R_q_expand : Fn) : Sx :=
  (sSeq (sAsg (eLst aNil) (gN 1))
    (c_q_expand_3 R_q_expand))
def F_q_expand : Nat → Fn
  | 0 => fnSt
  | n + 1 => defn 1 3 (c_q_expand (F_q_expand n))
def c_failures_counted : Sx :=
  (sRet (eAnd (eOp gEq (eOp gIx (eVar 0) (eC (.int 0))) (eC (.str "insert"))) (eOr (eOp gIs (eVar 1) (eC .non)) (eOp gLt (eOp gIx (eVar 0) (eC (.int 1))) (eVar 1)))))
def F_failures_counted : Fn := defn 2 2 c_failures_counted
def c_failures_balance_1 (R_failures_balance : Fn) (R_failures_step_balance : Fn) : Sx :=
  (sAug 2 gAddI (eVar 5))
def c_failures_balance_2 (R_failures_balance : Fn) (R_failures_step_balance : Fn) : Sx :=
  (sSeq (sAsg (eCall nMax2 (aCons (eVar 3) (aCons (eOp gSubI (eVar 6) (eVar 2)) aNil))) (gN 3))
    (c_failures_balance_1 R_failures_balance R_failures_step_balance))
def c_failures_balance_3 (R_failures_balance : Fn) (R_failures_step_balance : Fn) : Sx :=
  (sSeq (sAsg (eFn R_failures_step_balance (aCons (eVar 4) (aCons (eVar 1) aNil))) (gT 2 (gsCons (gN 5) (gsCons (gN 6) gsNil))))
    (c_failures_balance_2 R_failures_balance R_failures_step_balance))
def c_failures_balance_4 (R_failures_balance : Fn) (R_failures_step_balance : Fn) : Sx :=
  (sRet (eTup (aCons (eVar 2) (aCons (eVar 3) aNil))))
def c_failures_balance_5 (R_failures_balance : Fn) (R_failures_step_balance : Fn) : Sx :=
  (sSeq (sFor [0, 4, 5, 6] (iA (eVar 0)) (gN 4) (c_failures_balance_3 R_failures_balance R_failures_step_balance))
    (c_failures_balance_4 R_failures_balance R_failures_step_balance))
def c_failures_balance (R_failures_balance : Fn) (R_failures_step_balance : Fn) : Sx :=
  (sSeq (sAsg (eTup (aCons (eC (.int 0)) (aCons (eC (.int 0)) aNil))) (gT 2 (gsCons (gN 2) (gsCons (gN 3) gsNil))))
    (c_failures_balance_5 R_failures_balance R_failures_step_balance))
def c_failures_step_balance_1 (R_failures_balance : Fn) (R_failures_step_balance : Fn) : Sx :=
  (sRet (eTup (aCons (eOp gMul (eOp gIx (eVar 0) (eC (.int 1))) (eVar 2)) (aCons (eOp gSubI (eVar 3) (eOp gMul (eCall nMin2 (aCons (eVar 2) (aCons (eC (.int 0)) aNil))) (eOp gSubI (eOp gIx (eVar 0) (eC (.int 1))) (eC (.int 1))))) aNil))))
def c_failures_step_balance_2 (R_failures_balance : Fn) (R_failures_step_balance : Fn) : Sx :=
  (sSeq (sIf (eOp gEq (eOp gIx (eVar 0) (eC (.int 1))) (eC (.int 0))) (sRet (eTup (aCons (eC (.int 0)) (aCons (eC (.int 0)) aNil))))
    sNil)
    (c_failures_step_balance_1 R_failures_balance R_failures_step_balance))
def c_failures_step_balance_3 (R_failures_balance : Fn) (R_failures_step_balance : Fn) : Sx :=
  (sSeq (sAsg (eFn R_failures_balance (aCons (eOp gIx (eVar 0) (eC (.int 2))) (aCons (eVar 1) aNil))) (gT 2 (gsCons (gN 2) (gsCons (gN 3) gsNil))))
    (c_failures_step_balance_2 R_failures_balance R_failures_step_balance))
def c_failures_step_balance_4 (R_failures_balance : Fn) (R_failures_step_balance : Fn) : Sx :=
  (sSeq (sIf (eOp gEq (eOp gIx (eVar 0) (eC (.int 0))) (eC (.str "remove"))) (sRet (eTup (aCons (eNeg (eOp gIx (eVar 0) (eC (.int 1)))) (aCons (eOp gIx (eVar 0) (eC (.int 1))) aNil))))
    sNil)
    (c_failures_step_balance_3 R_failures_balance R_failures_step_balance))
def c_failures_step_balance (R_failures_balance : Fn) (R_failures_step_balance : Fn) : Sx :=
  (sSeq (sIf (eOp gEq (eOp gIx (eVar 0) (eC (.int 0))) (eC (.str "insert"))) (sRet (eTup (aCons (eIf (eFn F_failures_counted (aCons (eVar 0) (aCons (eVar 1) aNil))) (eOp gIx (eVar 0) (eC (.int 2))) (eC (.int 0))) (aCons (eC (.int 0)) aNil))))
    sNil)
    (c_failures_step_balance_4 R_failures_balance R_failures_step_balance))
mutual
def F_failures_balance : Nat → Fn
  | 0 => fnSt
  | n + 1 => defn 2 7 (c_failures_balance (F_failures_balance n) (F_failures_step_balance n))
def F_failures_step_balance : Nat → Fn
  | 0 => fnSt
  | n + 1 => defn 2 4 (c_failures_step_balance (F_failures_balance n) (F_failures_step_balance n))
end
def c_programs_count_steps_1 (R_programs_count_steps : Fn) : Sx :=
  (sIf (eOp gEq (eOp gIx (eVar 3) (eC (.int 0))) (eC (.str "repeat"))) (sAug 2 gAddI (eOp gMul (eOp gIx (eVar 3) (eC (.int 1))) (eFn R_programs_count_steps (aCons (eOp gIx (eVar 3) (eC (.int 2))) (aCons (eVar 1) aNil)))))
    (sIf (eOr (eOp gIs (eVar 1) (eC .non)) (eOp gEq (eOp gIx (eVar 3) (eC (.int 0))) (eVar 1))) (sAug 2 gAddI (eOp gIx (eVar 3) (eNeg (eC (.int 1)))))
    sNil))
def c_programs_count_steps_2 (R_programs_count_steps : Fn) : Sx :=
  (sRet (eVar 2))
def c_programs_count_steps_3 (R_programs_count_steps : Fn) : Sx :=
  (sSeq (sFor [0, 3] (iA (eVar 0)) (gN 3) (c_programs_count_steps_1 R_programs_count_steps))
    (c_programs_count_steps_2 R_programs_count_steps))
def c_programs_count_steps (R_programs_count_steps : Fn) : Sx :=
  (sSeq (sAsg (eC (.int 0)) (gN 2))
    (c_programs_count_steps_3 R_programs_count_steps))
def F_programs_count_steps : Nat → Fn
  | 0 => fnSt
  | n + 1 => defn 2 4 (c_programs_count_steps (F_programs_count_steps n))
def c_failures_failure_within_1 (R_failures_failure_within : Fn) (R_failures_find_failure : Fn) : Sx :=
  (sRet (eOp gAdd (eOp gMul (eVar 5) (eFn (F_programs_count_steps 16) (aCons (eOp gIx (eVar 1) (eC (.int 2))) (aCons (eC .non) aNil)))) (eIf (eOp gIs (eVar 6) (eC .non)) (eC (.int 0)) (eVar 6))))
def c_failures_failure_within_2 (R_failures_failure_within : Fn) (R_failures_find_failure : Fn) : Sx :=
  (sSeq (sAsg (eFn R_failures_find_failure (aCons (eOp gAdd (eVar 0) (eOp gMul (eVar 5) (eVar 3))) (aCons (eOp gIx (eVar 1) (eC (.int 2))) (aCons (eVar 2) aNil)))) (gN 6))
    (c_failures_failure_within_1 R_failures_failure_within R_failures_find_failure))
def c_failures_failure_within_3 (R_failures_failure_within : Fn) (R_failures_find_failure : Fn) : Sx :=
  (sSeq (sAsg (eIf (eOp gLt (eVar 0) (eVar 4)) (eC (.int 0)) (eOp gAdd (eOp gDivI (eOp gSubI (eVar 0) (eVar 4)) (eNeg (eVar 3))) (eC (.int 1)))) (gN 5))
    (c_failures_failure_within_2 R_failures_failure_within R_failures_find_failure))
def c_failures_failure_within_4 (R_failures_failure_within : Fn) (R_failures_find_failure : Fn) : Sx :=
  (sSeq (sAsg (eFn (F_failures_balance 30) (aCons (eOp gIx (eVar 1) (eC (.int 2))) (aCons (eVar 2) aNil))) (gT 2 (gsCons (gN 3) (gsCons (gN 4) gsNil))))
    (c_failures_failure_within_3 R_failures_failure_within R_failures_find_failure))
def c_failures_failure_within (R_failures_failure_within : Fn) (R_failures_find_failure : Fn) : Sx :=
  (sSeq (sIf (eOp gEq (eOp gIx (eVar 1) (eC (.int 0))) (eC (.str "remove"))) (sRet (eVar 0))
    sNil)
    (c_failures_failure_within_4 R_failures_failure_within R_failures_find_failure))
def c_failures_find_failure_1 (R_failures_failure_within : Fn) (R_failures_find_failure : Fn) : Sx :=
  (sAug 4 gAddI (eFn (F_programs_count_steps 16) (aCons (eTup (aCons (eVar 5) aNil)) (aCons (eC .non) aNil))))
def c_failures_find_failure_2 (R_failures_failure_within : Fn) (R_failures_find_failure : Fn) : Sx :=
  (sSeq (sAug 3 gAddI (eVar 6))
    (c_failures_find_failure_1 R_failures_failure_within R_failures_find_failure))
def c_failures_find_failure_3 (R_failures_failure_within : Fn) (R_failures_find_failure : Fn) : Sx :=
  (sSeq (sIf (eOp gLt (eVar 3) (eVar 7)) (sRet (eOp gAdd (eVar 4) (eFn R_failures_failure_within (aCons (eVar 3) (aCons (eVar 5) (aCons (eVar 2) aNil))))))
    sNil)
    (c_failures_find_failure_2 R_failures_failure_within R_failures_find_failure))
def c_failures_find_failure_4 (R_failures_failure_within : Fn) (R_failures_find_failure : Fn) : Sx :=
  (sSeq (sAsg (eFn (F_failures_step_balance 30) (aCons (eVar 5) (aCons (eVar 2) aNil))) (gT 2 (gsCons (gN 6) (gsCons (gN 7) gsNil))))
    (c_failures_find_failure_3 R_failures_failure_within R_failures_find_failure))
def c_failures_find_failure_5 (R_failures_failure_within : Fn) (R_failures_find_failure : Fn) : Sx :=
  (sRet (eC .non))
def c_failures_find_failure_6 (R_failures_failure_within : Fn) (R_failures_find_failure : Fn) : Sx :=
  (sSeq (sFor [0, 1, 5, 6, 7] (iA (eVar 1)) (gN 5) (c_failures_find_failure_4 R_failures_failure_within R_failures_find_failure))
    (c_failures_find_failure_5 R_failures_failure_within R_failures_find_failure))
def c_failures_find_failure (R_failures_failure_within : Fn) (R_failures_find_failure : Fn) : Sx :=
  (sSeq (sPar 3 4 (aCons (eVar 0) (aCons (eC (.int 0)) aNil)))
    (c_failures_find_failure_6 R_failures_failure_within R_failures_find_failure))
mutual
def F_failures_failure_within : Nat → Fn
  | 0 => fnSt
  | n + 1 => defn 3 7 (c_failures_failure_within (F_failures_failure_within n) (F_failures_find_failure n))
def F_failures_find_failure : Nat → Fn
  | 0 => fnSt
  | n + 1 => defn 3 8 (c_failures_find_failure (F_failures_failure_within n) (F_failures_find_failure n))
end
def c_histories_first_failure_1 : Sx :=
  (sRet (eFn (F_failures_find_failure 30) (aCons (eFn F_bags_total (aCons (eVar 0) aNil)) (aCons (eVar 1) (aCons (eC .non) aNil)))))
def c_histories_first_failure_2 : Sx :=
  (sSeq (sExpr (eFn F_programs_check_program (aCons (eVar 1) aNil)))
    c_histories_first_failure_1)
def c_histories_first_failure : Sx :=
  (sSeq (sExpr (eFn F_bags_check_bag (aCons (eVar 0) aNil)))
    c_histories_first_failure_2)
def F_histories_first_failure : Fn := defn 2 2 c_histories_first_failure
def c_q_run_v3_1 : Sx :=
  (sAsg (eSl (eVar 2) (oSome (eC (.int 1))) oNone) (gN 2))
def c_q_run_v3_2 : Sx :=
  (sIf (eOp gEq (eOp gIx (eOp gIx (eVar 1) (eVar 4)) (eC (.int 0))) (eC (.str "insert"))) (sAsg (eCall nSorted (aCons (eOp gAdd (eVar 2) (eLst (aCons (eOp gIx (eOp gIx (eVar 1) (eVar 4)) (eC (.int 1))) aNil))) aNil)) (gN 2))
    (sIf (eOp gEq (eVar 2) (eLst aNil)) (sRet (eLst (aCons (eC .non) (aCons (eVar 3) (aCons (eVar 4) aNil)))))
    (sSeq (sExpr (mAppend (eVar 3) (eOp gIx (eVar 2) (eC (.int 0)))))
    c_q_run_v3_1)))
def c_q_run_v3_3 : Sx :=
  (sRet (eLst (aCons (eVar 2) (aCons (eVar 3) (aCons (eC .non) aNil)))))
def c_q_run_v3_4 : Sx :=
  (sSeq (sFor [0, 4] (iR1 (eCall nLen (aCons (eVar 1) aNil))) (gN 4) c_q_run_v3_2)
    c_q_run_v3_3)
def c_q_run_v3_5 : Sx :=
  (sSeq (sAsg (eNew aNil) (gN 3))
    c_q_run_v3_4)
def c_q_run_v3 : Sx :=
  (sSeq (sAsg (eCall nSorted (aCons (eVar 0) aNil)) (gN 2))
    c_q_run_v3_5)
def F_q_run_v3 : Fn := defn 2 5 c_q_run_v3
def c_programs_check_index_1 : Sx :=
  (sIf (eOr (eNot (eFn F_bags_is_count (aCons (eVar 1) aNil))) (eOp gGe (eVar 1) (eOp gAdd (eFn (F_programs_count_steps 16) (aCons (eVar 0) (aCons (eC .non) aNil))) (eVar 2)))) (sRaise "OutOfRange" "value" (eVar 1))
    sNil)
def c_programs_check_index : Sx :=
  (sSeq (sExpr (eFn F_programs_check_program (aCons (eVar 0) aNil)))
    c_programs_check_index_1)
def F_programs_check_index : Fn := defn 3 3 c_programs_check_index
def c_histories_check_runs_1 : Sx :=
  (sIf (eOp gIsNot (eVar 2) (eC .non)) (sRaise "EmptyHeap" "index" (eVar 2))
    sNil)
def c_histories_check_runs : Sx :=
  (sSeq (sAsg (eFn (F_failures_find_failure 30) (aCons (eFn F_bags_total (aCons (eVar 0) aNil)) (aCons (eVar 1) (aCons (eC .non) aNil)))) (gN 2))
    c_histories_check_runs_1)
def F_histories_check_runs : Fn := defn 2 3 c_histories_check_runs
def c_programs_first_part_1 (R_programs_first_part : Fn) : Sx :=
  (sAug 2 gSubI (eVar 5))
def c_programs_first_part_2 (R_programs_first_part : Fn) : Sx :=
  sBreak
def c_programs_first_part_3 (R_programs_first_part : Fn) : Sx :=
  (sSeq (sExpr (mExtend (eVar 3) (eFn R_programs_first_part (aCons (eOp gIx (eVar 4) (eC (.int 2))) (aCons (eOp gModI (eVar 2) (eVar 6)) aNil)))))
    (c_programs_first_part_2 R_programs_first_part))
def c_programs_first_part_4 (R_programs_first_part : Fn) : Sx :=
  (sSeq (sExpr (mAppend (eVar 3) (eTup (aCons (eC (.str "repeat")) (aCons (eOp gDivI (eVar 2) (eVar 6)) (aCons (eOp gIx (eVar 4) (eC (.int 2))) aNil))))))
    (c_programs_first_part_3 R_programs_first_part))
def c_programs_first_part_5 (R_programs_first_part : Fn) : Sx :=
  sBreak
def c_programs_first_part_6 (R_programs_first_part : Fn) : Sx :=
  (sIf (eOp gGe (eVar 2) (eVar 5)) (sSeq (sExpr (mAppend (eVar 3) (eVar 4)))
    (c_programs_first_part_1 R_programs_first_part))
    (sIf (eOp gEq (eOp gIx (eVar 4) (eC (.int 0))) (eC (.str "repeat"))) (sSeq (sAsg (eFn (F_programs_count_steps 16) (aCons (eOp gIx (eVar 4) (eC (.int 2))) (aCons (eC .non) aNil))) (gN 6))
    (c_programs_first_part_4 R_programs_first_part))
    (sSeq (sExpr (mAppend (eVar 3) (eOp gAdd (eSl (eVar 4) oNone (oSome (eNeg (eC (.int 1))))) (eTup (aCons (eVar 2) aNil)))))
    (c_programs_first_part_5 R_programs_first_part))))
def c_programs_first_part_7 (R_programs_first_part : Fn) : Sx :=
  (sSeq (sAsg (eFn (F_programs_count_steps 16) (aCons (eTup (aCons (eVar 4) aNil)) (aCons (eC .non) aNil))) (gN 5))
    (c_programs_first_part_6 R_programs_first_part))
def c_programs_first_part_8 (R_programs_first_part : Fn) : Sx :=
  (sRet (eCall nTup (aCons (eVar 3) aNil)))
def c_programs_first_part_9 (R_programs_first_part : Fn) : Sx :=
  (sSeq (sFor [0, 1, 4, 5, 6] (iA (eVar 0)) (gN 4) (c_programs_first_part_7 R_programs_first_part))
    (c_programs_first_part_8 R_programs_first_part))
def c_programs_first_part (R_programs_first_part : Fn) : Sx :=
  (sSeq (sPar 2 3 (aCons (eVar 1) (aCons (eNew aNil) aNil)))
    (c_programs_first_part_9 R_programs_first_part))
def F_programs_first_part : Nat → Fn
  | 0 => fnSt
  | n + 1 => defn 2 7 (c_programs_first_part (F_programs_first_part n))
def c_histories_contents_after : Sx :=
  (sRet (eMeth "Effect" "apply" F_Effect_apply (eCmt "Effect" F_Effect_of (aCons (eFn (F_programs_first_part 16) (aCons (eVar 1) (aCons (eVar 2) aNil))) aNil)) (aCons (eVar 0) aNil)))
def F_histories_contents_after : Fn := defn 3 3 c_histories_contents_after
def c_histories_heap_after_1 : Sx :=
  (sRet (eFn F_histories_contents_after (aCons (eVar 0) (aCons (eVar 1) (aCons (eVar 2) aNil)))))
def c_histories_heap_after_2 : Sx :=
  (sSeq (sExpr (eFn F_histories_check_runs (aCons (eVar 0) (aCons (eFn (F_programs_first_part 16) (aCons (eVar 1) (aCons (eVar 2) aNil))) aNil))))
    c_histories_heap_after_1)
def c_histories_heap_after_3 : Sx :=
  (sSeq (sExpr (eFn F_programs_check_index (aCons (eVar 1) (aCons (eVar 2) (aCons (eC (.int 1)) aNil)))))
    c_histories_heap_after_2)
def c_histories_heap_after : Sx :=
  (sSeq (sExpr (eFn F_bags_check_bag (aCons (eVar 0) aNil)))
    c_histories_heap_after_3)
def F_histories_heap_after : Fn := defn 3 3 c_histories_heap_after
def c_histories_check_ordinal_1 : Sx :=
  (sIf (eOr (eNot (eFn F_bags_is_count (aCons (eVar 1) aNil))) (eOp gGe (eVar 1) (eFn (F_programs_count_steps 16) (aCons (eVar 0) (aCons (eC (.str "remove")) aNil))))) (sRaise "OutOfRange" "value" (eVar 1))
    sNil)
def c_histories_check_ordinal : Sx :=
  (sSeq (sExpr (eFn F_programs_check_program (aCons (eVar 0) aNil)))
    c_histories_check_ordinal_1)
def F_histories_check_ordinal : Fn := defn 2 2 c_histories_check_ordinal
def c_histories_removal_index_1 (R_histories_removal_index : Fn) : Sx :=
  (sRet (eOp gAdd (eOp gAdd (eVar 3) (eOp gMul (eVar 7) (eFn (F_programs_count_steps 16) (aCons (eOp gIx (eVar 4) (eC (.int 2))) (aCons (eC .non) aNil))))) (eFn R_histories_removal_index (aCons (eOp gIx (eVar 4) (eC (.int 2))) (aCons (eOp gModI (eVar 2) (eVar 6)) aNil)))))
def c_histories_removal_index_2 (R_histories_removal_index : Fn) : Sx :=
  (sSeq (sAsg (eOp gDivI (eVar 2) (eVar 6)) (gN 7))
    (c_histories_removal_index_1 R_histories_removal_index))
def c_histories_removal_index_3 (R_histories_removal_index : Fn) : Sx :=
  (sSeq (sAsg (eFn (F_programs_count_steps 16) (aCons (eOp gIx (eVar 4) (eC (.int 2))) (aCons (eC (.str "remove")) aNil))) (gN 6))
    (c_histories_removal_index_2 R_histories_removal_index))
def c_histories_removal_index_4 (R_histories_removal_index : Fn) : Sx :=
  (sAug 3 gAddI (eFn (F_programs_count_steps 16) (aCons (eTup (aCons (eVar 4) aNil)) (aCons (eC .non) aNil))))
def c_histories_removal_index_5 (R_histories_removal_index : Fn) : Sx :=
  (sSeq (sAug 2 gSubI (eVar 5))
    (c_histories_removal_index_4 R_histories_removal_index))
def c_histories_removal_index_6 (R_histories_removal_index : Fn) : Sx :=
  (sSeq (sIf (eOp gLt (eVar 2) (eVar 5)) (sSeq (sIf (eOp gEq (eOp gIx (eVar 4) (eC (.int 0))) (eC (.str "remove"))) (sRet (eOp gAdd (eVar 3) (eVar 2)))
    sNil)
    (c_histories_removal_index_3 R_histories_removal_index))
    sNil)
    (c_histories_removal_index_5 R_histories_removal_index))
def c_histories_removal_index_7 (R_histories_removal_index : Fn) : Sx :=
  (sSeq (sAsg (eFn (F_programs_count_steps 16) (aCons (eTup (aCons (eVar 4) aNil)) (aCons (eC (.str "remove")) aNil))) (gN 5))
    (c_histories_removal_index_6 R_histories_removal_index))
def c_histories_removal_index_8 (R_histories_removal_index : Fn) : Sx :=
  (sRaise "OutOfRange" "value" (eVar 1))
def c_histories_removal_index_9 (R_histories_removal_index : Fn) : Sx :=
  (sSeq (sFor [0, 4, 5, 6, 7] (iA (eVar 0)) (gN 4) (c_histories_removal_index_7 R_histories_removal_index))
    (c_histories_removal_index_8 R_histories_removal_index))
def c_histories_removal_index (R_histories_removal_index : Fn) : Sx :=
  (sSeq (sPar 2 3 (aCons (eVar 1) (aCons (eC (.int 0)) aNil)))
    (c_histories_removal_index_9 R_histories_removal_index))
def F_histories_removal_index : Nat → Fn
  | 0 => fnSt
  | n + 1 => defn 2 8 (c_histories_removal_index (F_histories_removal_index n))
def c_histories_removed_at_1 : Sx :=
  (sRet (eOp gIx (eOp gIx (eFn F_histories_contents_after (aCons (eVar 0) (aCons (eVar 1) (aCons (eVar 3) aNil)))) (eC (.int 0))) (eC (.int 0))))
def c_histories_removed_at_2 : Sx :=
  (sSeq (sExpr (eFn F_histories_check_runs (aCons (eVar 0) (aCons (eFn (F_programs_first_part 16) (aCons (eVar 1) (aCons (eOp gAdd (eVar 3) (eC (.int 1))) aNil))) aNil))))
    c_histories_removed_at_1)
def c_histories_removed_at_3 : Sx :=
  (sSeq (sAsg (eFn (F_histories_removal_index 16) (aCons (eVar 1) (aCons (eVar 2) aNil))) (gN 3))
    c_histories_removed_at_2)
def c_histories_removed_at_4 : Sx :=
  (sSeq (sExpr (eFn F_histories_check_ordinal (aCons (eVar 1) (aCons (eVar 2) aNil))))
    c_histories_removed_at_3)
def c_histories_removed_at : Sx :=
  (sSeq (sExpr (eFn F_bags_check_bag (aCons (eVar 0) aNil)))
    c_histories_removed_at_4)
def F_histories_removed_at : Fn := defn 3 4 c_histories_removed_at
def c_q_outcome_v10_1 : Sx :=
  (sIf (eOp gEq (eVar 0) (eC (.int 0))) (sAsg (eLst (aCons (eC (.str "heap")) (aCons (eFn F_histories_heap_after (aCons (eVar 1) (aCons (eVar 2) (aCons (eVar 3) aNil)))) aNil))) (gN 4))
    (sAsg (eLst (aCons (eC (.str "number")) (aCons (eFn F_histories_removed_at (aCons (eVar 1) (aCons (eVar 2) (aCons (eVar 3) aNil)))) aNil))) (gN 4)))
def c_q_outcome_v10_2 : Sx :=
  (sRet (eVar 4))
def c_q_outcome_v10_3 : Sx :=
  (sSeq (sTry ["InvalidCount", "InvalidBag", "InvalidProgram", "InvalidEffect", "EmptyHeap", "OutOfRange"] c_q_outcome_v10_1 [⟨"EmptyHeap", some 5, fun x => (sAsg (eLst (aCons (eC (.str "empty")) (aCons (xRd 5 "index" x) aNil))) (gN 4))⟩])
    c_q_outcome_v10_2)
def c_q_outcome_v10 : Sx :=
  (sSeq (sAsg (eLst aNil) (gN 4))
    c_q_outcome_v10_3)
def F_q_outcome_v10 : Fn := defn 4 6 c_q_outcome_v10
def c_q_fates_1 : Sx :=
  (sDput (eVar 3) (eVar 4) (eC .non))
def c_q_fates_2 : Sx :=
  (sIf (eOp gGe (eOp gIx (eVar 5) (eC (.int 1))) (eC (.int 0))) (sDput (eVar 3) (eOp gIx (eVar 5) (eC (.int 1))) (eVar 4))
    sNil)
def c_q_fates_3 : Sx :=
  (sSeq (sExpr (mRemove (eVar 2) (eVar 5)))
    c_q_fates_2)
def c_q_fates_4 : Sx :=
  (sIf (eOp gEq (eOp gIx (eOp gIx (eVar 1) (eVar 4)) (eC (.int 0))) (eC (.str "insert"))) (sSeq (sExpr (mAppend (eVar 2) (eTup (aCons (eOp gIx (eOp gIx (eVar 1) (eVar 4)) (eC (.int 1))) (aCons (eVar 4) aNil)))))
    c_q_fates_1)
    (sIf (eOp gEq (eVar 2) (eLst aNil)) (sRet (eLst (aCons (eC (.str "empty")) (aCons (eVar 4) aNil))))
    (sSeq (sAsg (eCall nMin (aCons (eVar 2) aNil)) (gN 5))
    c_q_fates_3)))
def c_q_fates_5 : Sx :=
  (sRet (eLst (aCons (eC (.str "fates")) (aCons (eVar 3) aNil))))
def c_q_fates_6 : Sx :=
  (sSeq (sFor [0, 4, 5] (iR1 (eCall nLen (aCons (eVar 1) aNil))) (gN 4) c_q_fates_4)
    c_q_fates_5)
def c_q_fates_7 : Sx :=
  (sSeq (sAsg eNewD (gN 3))
    c_q_fates_6)
def c_q_fates : Sx :=
  (sSeq (sAsg (eLcN [6] (iA (eVar 0)) (gN 6) fYes (eTup (aCons (eVar 6) (aCons (eNeg (eC (.int 1))) aNil)))) (gN 2))
    c_q_fates_7)
def F_q_fates : Fn := defn 2 7 c_q_fates
def c_programs_find_step_1 (R_programs_find_step : Fn) : Sx :=
  (sRet (eOp gAdd (eSl (eVar 3) oNone (oSome (eNeg (eC (.int 1))))) (eTup (aCons (eC (.int 1)) aNil))))
def c_programs_find_step_2 (R_programs_find_step : Fn) : Sx :=
  (sAug 2 gSubI (eVar 4))
def c_programs_find_step_3 (R_programs_find_step : Fn) : Sx :=
  (sSeq (sIf (eOp gLt (eVar 2) (eVar 4)) (sSeq (sIf (eOp gEq (eOp gIx (eVar 3) (eC (.int 0))) (eC (.str "repeat"))) (sRet (eFn R_programs_find_step (aCons (eOp gIx (eVar 3) (eC (.int 2))) (aCons (eOp gModI (eVar 2) (eFn (F_programs_count_steps 16) (aCons (eOp gIx (eVar 3) (eC (.int 2))) (aCons (eC .non) aNil)))) aNil))))
    sNil)
    (c_programs_find_step_1 R_programs_find_step))
    sNil)
    (c_programs_find_step_2 R_programs_find_step))
def c_programs_find_step_4 (R_programs_find_step : Fn) : Sx :=
  (sSeq (sAsg (eFn (F_programs_count_steps 16) (aCons (eTup (aCons (eVar 3) aNil)) (aCons (eC .non) aNil))) (gN 4))
    (c_programs_find_step_3 R_programs_find_step))
def c_programs_find_step_5 (R_programs_find_step : Fn) : Sx :=
  (sRaise "OutOfRange" "value" (eVar 1))
def c_programs_find_step_6 (R_programs_find_step : Fn) : Sx :=
  (sSeq (sFor [0, 3, 4] (iA (eVar 0)) (gN 3) (c_programs_find_step_4 R_programs_find_step))
    (c_programs_find_step_5 R_programs_find_step))
def c_programs_find_step (R_programs_find_step : Fn) : Sx :=
  (sSeq (sAsg (eVar 1) (gN 2))
    (c_programs_find_step_6 R_programs_find_step))
def F_programs_find_step : Nat → Fn
  | 0 => fnSt
  | n + 1 => defn 2 5 (c_programs_find_step (F_programs_find_step n))
def c_programs_last_part_1 (R_programs_last_part : Fn) : Sx :=
  (sRet (eOp gAdd (eOp gAdd (eVar 8) (eTup (aCons (eTup (aCons (eC (.str "repeat")) (aCons (eOp gSubI (eOp gSubI (eOp gIx (eVar 4) (eC (.int 1))) (eOp gDivI (eVar 2) (eVar 7))) (eC (.int 1))) (aCons (eOp gIx (eVar 4) (eC (.int 2))) aNil)))) aNil))) (eVar 6)))
def c_programs_last_part_2 (R_programs_last_part : Fn) : Sx :=
  (sSeq (sAsg (eFn R_programs_last_part (aCons (eOp gIx (eVar 4) (eC (.int 2))) (aCons (eOp gModI (eVar 2) (eVar 7)) aNil))) (gN 8))
    (c_programs_last_part_1 R_programs_last_part))
def c_programs_last_part_3 (R_programs_last_part : Fn) : Sx :=
  (sRet (eOp gAdd (eTup (aCons (eOp gAdd (eSl (eVar 4) oNone (oSome (eNeg (eC (.int 1))))) (eTup (aCons (eOp gSubI (eOp gIx (eVar 4) (eNeg (eC (.int 1)))) (eVar 2)) aNil))) aNil)) (eVar 6)))
def c_programs_last_part_4 (R_programs_last_part : Fn) : Sx :=
  (sSeq (sIf (eOp gEq (eOp gIx (eVar 4) (eC (.int 0))) (eC (.str "repeat"))) (sSeq (sAsg (eFn (F_programs_count_steps 16) (aCons (eOp gIx (eVar 4) (eC (.int 2))) (aCons (eC .non) aNil))) (gN 7))
    (c_programs_last_part_2 R_programs_last_part))
    sNil)
    (c_programs_last_part_3 R_programs_last_part))
def c_programs_last_part_5 (R_programs_last_part : Fn) : Sx :=
  (sAug 2 gSubI (eVar 5))
def c_programs_last_part_6 (R_programs_last_part : Fn) : Sx :=
  (sSeq (sIf (eOp gLt (eVar 2) (eVar 5)) (sSeq (sAsg (eSl (eVar 0) (oSome (eOp gAdd (eVar 3) (eC (.int 1)))) oNone) (gN 6))
    (c_programs_last_part_4 R_programs_last_part))
    sNil)
    (c_programs_last_part_5 R_programs_last_part))
def c_programs_last_part_7 (R_programs_last_part : Fn) : Sx :=
  (sSeq (sAsg (eFn (F_programs_count_steps 16) (aCons (eTup (aCons (eVar 4) aNil)) (aCons (eC .non) aNil))) (gN 5))
    (c_programs_last_part_6 R_programs_last_part))
def c_programs_last_part_8 (R_programs_last_part : Fn) : Sx :=
  (sRet (eTup aNil))
def c_programs_last_part_9 (R_programs_last_part : Fn) : Sx :=
  (sSeq (sFor [1, 3, 4, 5, 6, 7, 8] (iEnA (eVar 0)) (gT 2 (gsCons (gN 3) (gsCons (gN 4) gsNil))) (c_programs_last_part_7 R_programs_last_part))
    (c_programs_last_part_8 R_programs_last_part))
def c_programs_last_part (R_programs_last_part : Fn) : Sx :=
  (sSeq (sAsg (eVar 1) (gN 2))
    (c_programs_last_part_9 R_programs_last_part))
def F_programs_last_part : Nat → Fn
  | 0 => fnSt
  | n + 1 => defn 2 9 (c_programs_last_part (F_programs_last_part n))
def c_histories_fate_1 : Sx :=
  (sRet (eIf (eOp gIs (eVar 6) (eC .non)) (eC .non) (eOp gAdd (eOp gAdd (eVar 2) (eC (.int 1))) (eVar 6))))
def c_histories_fate_2 : Sx :=
  (sSeq (sAsg (eFn (F_failures_find_failure 30) (aCons (eVar 5) (aCons (eFn (F_programs_last_part 16) (aCons (eVar 1) (aCons (eOp gAdd (eVar 2) (eC (.int 1))) aNil))) (aCons (eVar 4) aNil)))) (gN 6))
    c_histories_fate_1)
def c_histories_fate_3 : Sx :=
  (sSeq (sAsg (eFn F_bags_level (aCons (eFn F_histories_contents_after (aCons (eVar 0) (aCons (eVar 1) (aCons (eVar 2) aNil)))) (aCons (eVar 4) aNil))) (gN 5))
    c_histories_fate_2)
def c_histories_fate_4 : Sx :=
  (sSeq (sAsg (eOp gIx (eVar 3) (eC (.int 1))) (gN 4))
    c_histories_fate_3)
def c_histories_fate_5 : Sx :=
  (sSeq (sExpr (eFn F_histories_check_runs (aCons (eVar 0) (aCons (eVar 1) aNil))))
    c_histories_fate_4)
def c_histories_fate_6 : Sx :=
  (sSeq (sIf (eOp gNe (eOp gIx (eVar 3) (eC (.int 0))) (eC (.str "insert"))) (sRaise "OutOfRange" "value" (eVar 2))
    sNil)
    c_histories_fate_5)
def c_histories_fate_7 : Sx :=
  (sSeq (sAsg (eFn (F_programs_find_step 16) (aCons (eVar 1) (aCons (eVar 2) aNil))) (gN 3))
    c_histories_fate_6)
def c_histories_fate_8 : Sx :=
  (sSeq (sExpr (eFn F_programs_check_index (aCons (eVar 1) (aCons (eVar 2) (aCons (eC (.int 0)) aNil)))))
    c_histories_fate_7)
def c_histories_fate : Sx :=
  (sSeq (sExpr (eFn F_bags_check_bag (aCons (eVar 0) aNil)))
    c_histories_fate_8)
def F_histories_fate : Fn := defn 3 7 c_histories_fate
def c_q_outcome_v11_1 : Sx :=
  (sAsg (eLst (aCons (eC (.str "fate")) (aCons (eFn F_histories_fate (aCons (eVar 0) (aCons (eVar 1) (aCons (eVar 2) aNil)))) aNil))) (gN 3))
def c_q_outcome_v11_2 : Sx :=
  (sRet (eVar 3))
def c_q_outcome_v11_3 : Sx :=
  (sSeq (sTry ["InvalidCount", "InvalidBag", "InvalidProgram", "InvalidEffect", "EmptyHeap", "OutOfRange"] c_q_outcome_v11_1 [⟨"EmptyHeap", some 4, fun x => (sAsg (eLst (aCons (eC (.str "empty")) (aCons (xRd 4 "index" x) aNil))) (gN 3))⟩, ⟨"OutOfRange", some 4, fun x => (sAsg (eLst (aCons (eC (.str "range")) (aCons (xRd 4 "value" x) aNil))) (gN 3))⟩])
    c_q_outcome_v11_2)
def c_q_outcome_v11 : Sx :=
  (sSeq (sAsg (eLst aNil) (gN 3))
    c_q_outcome_v11_3)
def F_q_outcome_v11 : Fn := defn 3 5 c_q_outcome_v11
def c_q_triple_v2_1 : Sx :=
  (sIf (eOp gEq (eOp gIx (eVar 3) (eC (.int 0))) (eC (.str "insert"))) (sAsg (eCall nSorted (aCons (eOp gAdd (eVar 2) (eLst (aCons (eOp gIx (eVar 3) (eC (.int 1))) aNil))) aNil)) (gN 2))
    (sAsg (eSl (eVar 2) (oSome (eC (.int 1))) oNone) (gN 2)))
def c_q_triple_v2_2 : Sx :=
  (sRet (eTup (aCons (eFn F_q_bag (aCons (eVar 1) aNil)) (aCons (eOp gSubI (eCall nLen (aCons (eVar 0) aNil)) (eCall nLen (aCons (eVar 1) aNil))) (aCons (eFn F_q_bag (aCons (eVar 2) aNil)) aNil)))))
def c_q_triple_v2_3 : Sx :=
  (sSeq (sFor [3] (iA (eVar 0)) (gN 3) c_q_triple_v2_1)
    c_q_triple_v2_2)
def c_q_triple_v2_4 : Sx :=
  (sSeq (sAsg (eLst aNil) (gN 2))
    c_q_triple_v2_3)
def c_q_triple_v2 : Sx :=
  (sSeq (sAsg (eLc [3] (iA (eVar 0)) (gN 3) (eOp gEq (eOp gIx (eVar 3) (eC (.int 0))) (eC (.str "insert"))) (eOp gIx (eVar 3) (eC (.int 1)))) (gN 1))
    c_q_triple_v2_4)
def F_q_triple_v2 : Fn := defn 1 4 c_q_triple_v2
def c_histories_removal_bound_1 : Sx :=
  (sRet (eIf (eOp gNe (eVar 2) (eTup aNil)) (eOp gIx (eOp gIx (eVar 2) (eC (.int 0))) (eC (.int 0))) (eC .non)))
def c_histories_removal_bound_2 : Sx :=
  (sSeq (sAsg (eProp "Effect" F_Effect_survivors (eCmt "Effect" F_Effect_of (aCons (eFn (F_programs_first_part 16) (aCons (eVar 0) (aCons (eFn (F_histories_removal_index 16) (aCons (eVar 0) (aCons (eVar 1) aNil))) aNil))) aNil))) (gN 2))
    c_histories_removal_bound_1)
def c_histories_removal_bound : Sx :=
  (sSeq (sExpr (eFn F_histories_check_ordinal (aCons (eVar 0) (aCons (eVar 1) aNil))))
    c_histories_removal_bound_2)
def F_histories_removal_bound : Fn := defn 2 3 c_histories_removal_bound
def c_q_great_program_v3_1 : Sx :=
  (sRet (eOp gAdd (eOp gAdd (eVar 4) (eTup (aCons (eTup (aCons (eC (.str "repeat")) (aCons (eVar 3) (aCons (eOp gAdd (eVar 2) (eTup (aCons (eVar 5) aNil))) aNil)))) aNil))) (eFn (F_q_program 16) (aCons (eVar 0) (aCons (eC (.int 2)) (aCons (eVar 1) (aCons (eC (.int 4)) aNil)))))))
def c_q_great_program_v3_2 : Sx :=
  (sSeq (sAsg (eTup (aCons (eC (.str "repeat")) (aCons (eOp gIx (eLst (aCons (eC (.int 3)) (aCons (eFn F_q_draw_v2 (aCons (eVar 0) (aCons (eOp gPowI (eC (.int 10)) (eC (.int 30))) aNil))) aNil))) (eFn F_q_draw_v2 (aCons (eVar 0) (aCons (eC (.int 2)) aNil)))) (aCons (eVar 2) aNil)))) (gN 5))
    c_q_great_program_v3_1)
def c_q_great_program_v3_3 : Sx :=
  (sSeq (sAsg (eOp gAdd (eFn (F_q_program 16) (aCons (eVar 0) (aCons (eC (.int 2)) (aCons (eVar 1) (aCons (eC (.int 4)) aNil))))) (eTup (aCons (eTup (aCons (eC (.str "insert")) (aCons (eOp gAdd (eVar 1) (eC (.int 1))) (aCons (eFn F_q_draw_v2 (aCons (eVar 0) (aCons (eOp gPowI (eC (.int 10)) (eC (.int 30))) aNil))) aNil)))) aNil))) (gN 4))
    c_q_great_program_v3_2)
def c_q_great_program_v3_4 : Sx :=
  (sSeq (sAsg (eOp gIx (eLst (aCons (eOp gAdd (eC (.int 1)) (eFn F_q_draw_v2 (aCons (eVar 0) (aCons (eC (.int 9)) aNil)))) (aCons (eOp gAdd (eC (.int 1)) (eFn F_q_draw_v2 (aCons (eVar 0) (aCons (eOp gPowI (eC (.int 10)) (eC (.int 30))) aNil)))) (aCons (eOp gPowI (eC (.int 10)) (eC (.int 30))) aNil)))) (eFn F_q_draw_v2 (aCons (eVar 0) (aCons (eC (.int 3)) aNil)))) (gN 3))
    c_q_great_program_v3_3)
def c_q_great_program_v3 : Sx :=
  (sSeq (sAsg (eFn (F_q_program 16) (aCons (eVar 0) (aCons (eC (.int 3)) (aCons (eVar 1) (aCons (eC (.int 4)) aNil))))) (gN 2))
    c_q_great_program_v3_4)
def F_q_great_program_v3 : Fn := defn 2 6 c_q_great_program_v3
def c_programs_prefix_1 : Sx :=
  (sRet (eFn (F_programs_first_part 16) (aCons (eVar 0) (aCons (eVar 1) aNil))))
def c_programs_prefix : Sx :=
  (sSeq (sExpr (eFn F_programs_check_index (aCons (eVar 0) (aCons (eVar 1) (aCons (eC (.int 1)) aNil)))))
    c_programs_prefix_1)
def F_programs_prefix : Fn := defn 2 2 c_programs_prefix
def c_programs_step_count_1 : Sx :=
  (sRet (eFn (F_programs_count_steps 16) (aCons (eVar 0) (aCons (eC .non) aNil))))
def c_programs_step_count : Sx :=
  (sSeq (sExpr (eFn F_programs_check_program (aCons (eVar 0) aNil)))
    c_programs_step_count_1)
def F_programs_step_count : Fn := defn 1 1 c_programs_step_count
def c_programs_step_at_1 : Sx :=
  (sRet (eFn (F_programs_find_step 16) (aCons (eVar 0) (aCons (eVar 1) aNil))))
def c_programs_step_at : Sx :=
  (sSeq (sExpr (eFn F_programs_check_index (aCons (eVar 0) (aCons (eVar 1) (aCons (eC (.int 0)) aNil)))))
    c_programs_step_at_1)
def F_programs_step_at : Fn := defn 2 2 c_programs_step_at
def c_q_inserted_1 (R_q_inserted : Fn) : Sx :=
  (sIf (eOp gEq (eOp gIx (eVar 3) (eC (.int 0))) (eC (.str "repeat"))) (sAsg (eOp gAdd (eVar 2) (eOp gMul (eOp gIx (eVar 3) (eC (.int 1))) (eFn R_q_inserted (aCons (eOp gIx (eVar 3) (eC (.int 2))) (aCons (eVar 1) aNil))))) (gN 2))
    (sIf (eAnd (eOp gEq (eOp gIx (eVar 3) (eC (.int 0))) (eC (.str "insert"))) (eOp gEq (eOp gIx (eVar 3) (eC (.int 1))) (eVar 1))) (sAsg (eOp gAdd (eVar 2) (eOp gIx (eVar 3) (eC (.int 2)))) (gN 2))
    sNil))
def c_q_inserted_2 (R_q_inserted : Fn) : Sx :=
  (sRet (eVar 2))
def c_q_inserted_3 (R_q_inserted : Fn) : Sx :=
  (sSeq (sFor [0, 3] (iA (eVar 0)) (gN 3) (c_q_inserted_1 R_q_inserted))
    (c_q_inserted_2 R_q_inserted))
def c_q_inserted (R_q_inserted : Fn) : Sx :=
  (sSeq (sAsg (eC (.int 0)) (gN 2))
    (c_q_inserted_3 R_q_inserted))
def F_q_inserted : Nat → Fn
  | 0 => fnSt
  | n + 1 => defn 2 4 (c_q_inserted (F_q_inserted n))
def c_q_newer : Sx :=
  (sRet (eOp gSubI (eFn (F_q_inserted 16) (aCons (eFn F_programs_prefix (aCons (eVar 0) (aCons (eVar 3) aNil))) (aCons (eVar 1) aNil))) (eFn (F_q_inserted 16) (aCons (eFn F_programs_prefix (aCons (eVar 0) (aCons (eOp gAdd (eVar 2) (eC (.int 1))) aNil))) (aCons (eVar 1) aNil)))))
def F_q_newer : Fn := defn 4 4 c_q_newer
def c_q_fate_right_1 : Sx :=
  (sRet (eOp gGt (eVar 6) (eFn F_q_newer (aCons (eVar 1) (aCons (eVar 3) (aCons (eVar 2) (aCons (eVar 5) aNil)))))))
def c_q_fate_right_2 : Sx :=
  (sSeq (sAsg (eDget2 (eCall nDict (aCons (eFn F_histories_heap_after (aCons (eVar 0) (aCons (eVar 1) (aCons (eVar 5) aNil)))) aNil)) (eVar 3) (eC (.int 0))) (gN 6))
    c_q_fate_right_1)
def c_q_fate_right_3 : Sx :=
  (sRet (eOp gEq (eOp gIx (eOp gIx (eVar 7) (eC (.int 0))) (eC (.int 1))) (eOp gAdd (eC (.int 1)) (eFn F_q_newer (aCons (eVar 1) (aCons (eVar 3) (aCons (eVar 2) (aCons (eVar 4) aNil))))))))
def c_q_fate_right_4 : Sx :=
  (sSeq (sIf (eOp gNe (eOp gIx (eOp gIx (eVar 7) (eC (.int 0))) (eC (.int 0))) (eVar 3)) (sRet (eC (.bl false)))
    sNil)
    c_q_fate_right_3)
def c_q_fate_right_5 : Sx :=
  (sSeq (sAsg (eFn F_histories_heap_after (aCons (eVar 0) (aCons (eVar 1) (aCons (eVar 4) aNil)))) (gN 7))
    c_q_fate_right_4)
def c_q_fate_right_6 : Sx :=
  (sSeq (sIf (eOp gNe (eFn F_programs_step_at (aCons (eVar 1) (aCons (eVar 4) aNil))) (eTup (aCons (eC (.str "remove")) (aCons (eC (.int 1)) aNil)))) (sRet (eC (.bl false)))
    sNil)
    c_q_fate_right_5)
def c_q_fate_right_7 : Sx :=
  (sSeq (sIf (eOr (eNot (eCall nIsTy (aCons (eVar 4) (aCons (eC (.ty "int")) aNil)))) (eNot (eChain gLt gLt (eVar 2) (eVar 4) (eFn F_programs_step_count (aCons (eVar 1) aNil))))) (sRet (eC (.bl false)))
    sNil)
    c_q_fate_right_6)
def c_q_fate_right_8 : Sx :=
  (sSeq (sIf (eOp gIs (eVar 4) (eC .non)) (sSeq (sAsg (eFn F_programs_step_count (aCons (eVar 1) aNil)) (gN 5))
    c_q_fate_right_2)
    sNil)
    c_q_fate_right_7)
def c_q_fate_right : Sx :=
  (sSeq (sAsg (eFn F_histories_fate (aCons (eVar 0) (aCons (eVar 1) (aCons (eVar 2) aNil)))) (gN 4))
    c_q_fate_right_8)
def F_q_fate_right : Fn := defn 4 8 c_q_fate_right
def c_programs_suffix_1 : Sx :=
  (sRet (eFn (F_programs_last_part 16) (aCons (eVar 0) (aCons (eVar 1) aNil))))
def c_programs_suffix : Sx :=
  (sSeq (sExpr (eFn F_programs_check_index (aCons (eVar 0) (aCons (eVar 1) (aCons (eC (.int 1)) aNil)))))
    c_programs_suffix_1)
def F_programs_suffix : Fn := defn 2 2 c_programs_suffix
def c_q_is_triple : Sx :=
  (sRet (eOp gEq (eCall nRepr (aCons (eTup (aCons (eProp "Effect" F_Effect_inserted (eVar 0)) (aCons (eProp "Effect" F_Effect_removals (eVar 0)) (aCons (eProp "Effect" F_Effect_survivors (eVar 0)) aNil)))) aNil)) (eCall nRepr (aCons (eVar 1) aNil))))
def F_q_is_triple : Fn := defn 2 2 c_q_is_triple
def c_sequences_is_elementary : Sx :=
  (sRet (eAnd (eFn F_programs_is_step (aCons (eVar 0) (aCons (eC (.int 1)) aNil))) (eAnd (eOp gNe (eOp gIx (eVar 0) (eC (.int 0))) (eC (.str "repeat"))) (eOp gEq (eOp gIx (eVar 0) (eNeg (eC (.int 1)))) (eC (.int 1))))))
def F_sequences_is_elementary : Fn := defn 1 1 c_sequences_is_elementary
def c_sequences_check_sequence_1 : Sx :=
  (sIf (eNot (eFn F_sequences_is_elementary (aCons (eVar 2) aNil))) (sRaise "InvalidSequence" "index" (eVar 1))
    sNil)
def c_sequences_check_sequence_2 : Sx :=
  (sFor [0, 1, 2] (iEnA (eVar 0)) (gT 2 (gsCons (gN 1) (gsCons (gN 2) gsNil))) c_sequences_check_sequence_1)
def c_sequences_check_sequence : Sx :=
  (sSeq (sIf (eOr (eNot (eCall nIsTy (aCons (eVar 0) (aCons (eC (.ty "list")) aNil)))) (eOp gGt (eCall nLen (aCons (eVar 0) aNil)) (eC (.int 40)))) (sRaise "InvalidSequence" "index" (eC .non))
    sNil)
    c_sequences_check_sequence_2)
def F_sequences_check_sequence : Fn := defn 1 3 c_sequences_check_sequence
def c_sequences_effect_of_1 : Sx :=
  (sRet (eCmt "Effect" F_Effect_of (aCons (eCall nTup (aCons (eVar 0) aNil)) aNil)))
def c_sequences_effect_of : Sx :=
  (sSeq (sExpr (eFn F_sequences_check_sequence (aCons (eVar 0) aNil)))
    c_sequences_effect_of_1)
def F_sequences_effect_of : Fn := defn 1 1 c_sequences_effect_of
def c_q_wrong_1 : Sx :=
  (sRet (eOp gIx (eVar 1) (eFn F_q_draw_v2 (aCons (eVar 0) (aCons (eC (.int 20)) aNil)))))
def c_q_wrong : Sx :=
  (sSeq (sAsg (eLst (aCons (eC .non) (aCons (eTup aNil) (aCons (eTup (aCons (eC (.str "remove")) aNil)) (aCons (eTup (aCons (eC (.str "remove")) (aCons (eC (.int 2)) aNil))) (aCons (eTup (aCons (eC (.str "remove")) (aCons (eC (.int 0)) aNil))) (aCons (eTup (aCons (eC (.str "remove")) (aCons (eC (.bl true)) aNil))) (aCons (eTup (aCons (eC (.str "insert")) (aCons (eC (.int 5)) aNil))) (aCons (eTup (aCons (eC (.str "insert")) (aCons (eC (.int 5)) (aCons (eC (.int 2)) aNil)))) (aCons (eTup (aCons (eC (.str "insert")) (aCons (eC (.int 5)) (aCons (eC (.int 0)) aNil)))) (aCons (eTup (aCons (eC (.str "insert")) (aCons (eC (.int 5)) (aCons (eC (.bl true)) aNil)))) (aCons (eTup (aCons (eC (.str "insert")) (aCons (eC .non) (aCons (eC (.int 1)) aNil)))) (aCons (eTup (aCons (eC (.str "insert")) (aCons (eC (.bl true)) (aCons (eC (.int 1)) aNil)))) (aCons (eLst (aCons (eC (.str "remove")) (aCons (eC (.int 1)) aNil))) (aCons (eTup (aCons (eC (.str "Insert")) (aCons (eC (.int 5)) (aCons (eC (.int 1)) aNil)))) (aCons (eTup (aCons (eC (.str "repeat")) (aCons (eC (.int 1)) (aCons (eTup aNil) aNil)))) (aCons (eTup (aCons (eC (.str "repeat")) (aCons (eC (.int 1)) (aCons (eTup (aCons (eTup (aCons (eC (.str "remove")) (aCons (eC (.int 1)) aNil))) aNil)) aNil)))) (aCons (eC (.str "remove")) (aCons (eC (.int 1)) (aCons (eTup (aCons eDv (aCons (eC (.int 1)) aNil))) (aCons (eTup (aCons (eC (.str "remove")) (aCons (eC (.int 1)) (aCons (eC (.int 1)) aNil)))) aNil))))))))))))))))))))) (gN 1))
    c_q_wrong_1)
def F_q_wrong : Fn := defn 1 2 c_q_wrong
def c_q_error_v2_1 : Sx :=
  (sIf (eOp gEq (eVar 0) (eC (.int 0))) (sExpr (eFn F_sequences_check_sequence (aCons (eVar 1) aNil)))
    (sExpr (eFn F_sequences_effect_of (aCons (eVar 1) aNil))))
def c_q_error_v2_2 : Sx :=
  (sRet (eVar 2))
def c_q_error_v2_3 : Sx :=
  (sSeq (sTry ["InvalidCount", "InvalidBag", "InvalidProgram", "InvalidEffect", "InvalidSequence"] c_q_error_v2_1 [⟨"InvalidSequence", some 3, fun x => (sAsg (eLst (aCons (eC (.str "sequence")) (aCons (xRd 3 "index" x) aNil))) (gN 2))⟩])
    c_q_error_v2_2)
def c_q_error_v2 : Sx :=
  (sSeq (sAsg (eLst (aCons (eC (.str "answered")) aNil)) (gN 2))
    c_q_error_v2_3)
def F_q_error_v2 : Fn := defn 2 4 c_q_error_v2
def c_observations_is_observation : Sx :=
  (sRet (eAnd (eCall nIsTy (aCons (eVar 0) (aCons (eC (.ty "tuple")) aNil))) (eAnd (eOp gEq (eCall nLen (aCons (eVar 0) aNil)) (eC (.int 2))) (eAnd (eFn F_bags_is_bag (aCons (eOp gIx (eVar 0) (eC (.int 0))) aNil)) (eFn F_bags_is_bag (aCons (eOp gIx (eVar 0) (eC (.int 1))) aNil))))))
def F_observations_is_observation : Fn := defn 1 1 c_observations_is_observation
def c_observations_check_observations_1 : Sx :=
  (sIf (eNot (eFn F_observations_is_observation (aCons (eVar 2) aNil))) (sRaise "InvalidObservations" "index" (eVar 1))
    sNil)
def c_observations_check_observations_2 : Sx :=
  (sFor [0, 1, 2] (iEnA (eVar 0)) (gT 2 (gsCons (gN 1) (gsCons (gN 2) gsNil))) c_observations_check_observations_1)
def c_observations_check_observations : Sx :=
  (sSeq (sIf (eOr (eNot (eCall nIsTy (aCons (eVar 0) (aCons (eC (.ty "list")) aNil)))) (eOp gGt (eCall nLen (aCons (eVar 0) aNil)) (eC (.int 20)))) (sRaise "InvalidObservations" "index" (eC .non))
    sNil)
    c_observations_check_observations_2)
def F_observations_check_observations : Fn := defn 1 3 c_observations_check_observations
def c_observations_agrees_1 : Sx :=
  (sRet (eCall nAll (aCons (eLc [2, 3] (iA (eVar 1)) (gT 2 (gsCons (gN 2) (gsCons (gN 3) gsNil))) fYes (eAnd (eOp gGe (eFn F_bags_total (aCons (eVar 2) aNil)) (eProp "Effect" F_Effect_needed (eVar 0))) (eOp gEq (eMeth "Effect" "apply" F_Effect_apply (eVar 0) (aCons (eVar 2) aNil)) (eVar 3)))) aNil)))
def c_observations_agrees_2 : Sx :=
  (sSeq (sExpr (eFn F_observations_check_observations (aCons (eVar 1) aNil)))
    c_observations_agrees_1)
def c_observations_agrees : Sx :=
  (sSeq (sExpr (eFn F_effects_check_effects (aCons (eLst (aCons (eVar 0) aNil)) aNil)))
    c_observations_agrees_2)
def F_observations_agrees : Fn := defn 2 4 c_observations_agrees
def c_q_error_v8_1 : Sx :=
  (sExpr (eFn F_observations_agrees (aCons (eVar 0) (aCons (eVar 1) aNil))))
def c_q_error_v8_2 : Sx :=
  (sRet (eVar 2))
def c_q_error_v8_3 : Sx :=
  (sSeq (sTry ["InvalidCount", "InvalidBag", "InvalidProgram", "InvalidEffect", "InvalidObservations", "EmptyHeap"] c_q_error_v8_1 [⟨"InvalidEffect", some 3, fun x => (sAsg (eLst (aCons (eC (.str "effect")) (aCons (xRd 3 "part" x) aNil))) (gN 2))⟩, ⟨"InvalidObservations", some 3, fun x => (sAsg (eLst (aCons (eC (.str "observations")) (aCons (xRd 3 "index" x) aNil))) (gN 2))⟩])
    c_q_error_v8_2)
def c_q_error_v8 : Sx :=
  (sSeq (sAsg (eLst (aCons (eC (.str "answered")) aNil)) (gN 2))
    c_q_error_v8_3)
def F_q_error_v8 : Fn := defn 2 4 c_q_error_v8
def c_SequenceCounter_init_1 : Sx :=
  (sFldS "SequenceCounter" "known" (eVar 0) eNewD)
def c_SequenceCounter_init_2 : Sx :=
  (sSeq (sFldS "SequenceCounter" "start" (eVar 0) (eTup (aCons (eProp "Effect" F_Effect_inserted (eVar 1)) (aCons (eProp "Effect" F_Effect_removals (eVar 1)) (aCons (eTup aNil) aNil)))))
    c_SequenceCounter_init_1)
def c_SequenceCounter_init_3 : Sx :=
  (sSeq (sFldS "SequenceCounter" "wanted" (eVar 0) (eProp "Effect" F_Effect_survivors (eVar 1)))
    c_SequenceCounter_init_2)
def c_SequenceCounter_init_4 : Sx :=
  (sSeq (sFldS "SequenceCounter" "length" (eVar 0) (eVar 2))
    c_SequenceCounter_init_3)
def c_SequenceCounter_init_5 : Sx :=
  (sSeq (sIf (eOp gGt (eVar 2) (eC (.int 12))) (sRaise "LimitExceeded" "count" (eVar 2))
    sNil)
    c_SequenceCounter_init_4)
def c_SequenceCounter_init_6 : Sx :=
  (sSeq (sAsg (eOp gAdd (eFn F_bags_total (aCons (eProp "Effect" F_Effect_inserted (eVar 1)) aNil)) (eProp "Effect" F_Effect_removals (eVar 1))) (gN 2))
    c_SequenceCounter_init_5)
def c_SequenceCounter_init : Sx :=
  (sSeq (sExpr (eFn F_effects_check_effects (aCons (eLst (aCons (eVar 1) aNil)) aNil)))
    c_SequenceCounter_init_6)
def F_SequenceCounter_init : Fn := defn 2 3 c_SequenceCounter_init
def c_SequenceCounter_choices_1 : Sx :=
  (sExpr (mAppend (eVar 5) (eTup (aCons (eTup (aCons (eC (.str "insert")) (aCons (eVar 6) (aCons (eC (.int 1)) aNil)))) (aCons (eTup (aCons (eFn F_bags_subtract (aCons (eVar 2) (aCons (eVar 8) aNil))) (aCons (eVar 3) (aCons (eFn F_bags_add (aCons (eVar 4) (aCons (eVar 8) aNil))) aNil)))) aNil)))))
def c_SequenceCounter_choices_2 : Sx :=
  (sSeq (sAsg (eTup (aCons (eTup (aCons (eVar 6) (aCons (eC (.int 1)) aNil))) aNil)) (gN 8))
    c_SequenceCounter_choices_1)
def c_SequenceCounter_choices_3 : Sx :=
  (sRet (eVar 5))
def c_SequenceCounter_choices_4 : Sx :=
  (sSeq (sIf (eOp gGt (eVar 3) (eC (.int 0))) (sExpr (mAppend (eVar 5) (eTup (aCons (eC (.tup [.str "remove", .int 1])) (aCons (eTup (aCons (eVar 2) (aCons (eOp gSubI (eVar 3) (eC (.int 1))) (aCons (eFn F_bags_drop (aCons (eVar 4) (aCons (eC (.int 1)) aNil))) aNil)))) aNil)))))
    sNil)
    c_SequenceCounter_choices_3)
def c_SequenceCounter_choices_5 : Sx :=
  (sSeq (sFor [0, 1, 6, 7, 8] (iA (eVar 2)) (gT 2 (gsCons (gN 6) (gsCons (gN 7) gsNil))) c_SequenceCounter_choices_2)
    c_SequenceCounter_choices_4)
def c_SequenceCounter_choices_6 : Sx :=
  (sSeq (sAsg (eNew aNil) (gN 5))
    c_SequenceCounter_choices_5)
def c_SequenceCounter_choices : Sx :=
  (sSeq (sAsg (eVar 1) (gT 3 (gsCons (gN 2) (gsCons (gN 3) (gsCons (gN 4) gsNil)))))
    c_SequenceCounter_choices_6)
def F_SequenceCounter_choices : Fn := defn 2 9 c_SequenceCounter_choices
def c_SequenceCounter_ways_1 (R_SequenceCounter_ways : Fn) : Sx :=
  (sRet (eOp gIx (eFld "SequenceCounter" "known" (eVar 0)) (eVar 1)))
def c_SequenceCounter_ways (R_SequenceCounter_ways : Fn) : Sx :=
  (sSeq (sIf (eOp gNin (eVar 1) (eFld "SequenceCounter" "known" (eVar 0))) (sIf (eAnd (eOp gEq (eOp gIx (eVar 1) (eC (.int 0))) (eTup aNil)) (eOp gEq (eOp gIx (eVar 1) (eC (.int 1))) (eC (.int 0)))) (sAsg (eIf (eOp gEq (eOp gIx (eVar 1) (eC (.int 2))) (eFld "SequenceCounter" "wanted" (eVar 0))) (eC (.int 1)) (eC (.int 0))) (gSub (eFld "SequenceCounter" "known" (eVar 0)) (eVar 1)))
    (sAsg (eCall nSum (aCons (eLc [2, 3] (iA (eMeth "SequenceCounter" "choices" F_SequenceCounter_choices (eVar 0) (aCons (eVar 1) aNil))) (gT 2 (gsCons (gN 2) (gsCons (gN 3) gsNil))) fYes (eMeth "SequenceCounter" "ways" R_SequenceCounter_ways (eVar 0) (aCons (eVar 3) aNil))) aNil)) (gSub (eFld "SequenceCounter" "known" (eVar 0)) (eVar 1))))
    sNil)
    (c_SequenceCounter_ways_1 R_SequenceCounter_ways))
def F_SequenceCounter_ways : Nat → Fn
  | 0 => fnSt
  | n + 1 => defn 2 4 (c_SequenceCounter_ways (F_SequenceCounter_ways n))
def c_sequences_count_sequences_1 : Sx :=
  (sRet (eMeth "SequenceCounter" "ways" (F_SequenceCounter_ways 16) (eVar 1) (aCons (eFld "SequenceCounter" "start" (eVar 1)) aNil)))
def c_sequences_count_sequences : Sx :=
  (sSeq (sAsg (eMake "SequenceCounter" F_SequenceCounter_init (aCons (eVar 0) aNil)) (gN 1))
    c_sequences_count_sequences_1)
def F_sequences_count_sequences : Fn := defn 1 2 c_sequences_count_sequences
def c_q_choose_1 : Sx :=
  (sAsg (eOp gAdd (eOp gAdd (eLst (aCons (eC (.int 1)) aNil)) (eLc [4] (iR1 (eOp gSubI (eCall nLen (aCons (eVar 2) aNil)) (eC (.int 1)))) (gN 4) fYes (eOp gAdd (eOp gIx (eVar 2) (eVar 4)) (eOp gIx (eVar 2) (eOp gAdd (eVar 4) (eC (.int 1))))))) (eLst (aCons (eC (.int 1)) aNil))) (gN 2))
def c_q_choose_2 : Sx :=
  (sRet (eIf (eOp gLe (eVar 1) (eVar 0)) (eOp gIx (eVar 2) (eVar 1)) (eC (.int 0))))
def c_q_choose_3 : Sx :=
  (sSeq (sFor [3] (iR1 (eVar 0)) (gN 3) c_q_choose_1)
    c_q_choose_2)
def c_q_choose : Sx :=
  (sSeq (sAsg (eLst (aCons (eC (.int 1)) aNil)) (gN 2))
    c_q_choose_3)
def F_q_choose : Fn := defn 2 5 c_q_choose
def c_SequenceCounter_sequence_1 : Sx :=
  sBreak
def c_SequenceCounter_sequence_2 : Sx :=
  (sSeq (sAsg (eVar 7) (gN 2))
    c_SequenceCounter_sequence_1)
def c_SequenceCounter_sequence_3 : Sx :=
  (sAug 3 gSubI (eMeth "SequenceCounter" "ways" (F_SequenceCounter_ways 16) (eVar 0) (aCons (eVar 7) aNil)))
def c_SequenceCounter_sequence_4 : Sx :=
  (sSeq (sIf (eOp gLt (eVar 3) (eMeth "SequenceCounter" "ways" (F_SequenceCounter_ways 16) (eVar 0) (aCons (eVar 7) aNil))) (sSeq (sExpr (mAppend (eVar 4) (eVar 6)))
    c_SequenceCounter_sequence_2)
    sNil)
    c_SequenceCounter_sequence_3)
def c_SequenceCounter_sequence_5 : Sx :=
  (sFor [1, 5, 6, 7] (iA (eMeth "SequenceCounter" "choices" F_SequenceCounter_choices (eVar 0) (aCons (eVar 2) aNil))) (gT 2 (gsCons (gN 6) (gsCons (gN 7) gsNil))) c_SequenceCounter_sequence_4)
def c_SequenceCounter_sequence_6 : Sx :=
  (sRet (eVar 4))
def c_SequenceCounter_sequence_7 : Sx :=
  (sSeq (sFor [1, 5, 6, 7] (iR1 (eFld "SequenceCounter" "length" (eVar 0))) (gN 5) c_SequenceCounter_sequence_5)
    c_SequenceCounter_sequence_6)
def c_SequenceCounter_sequence : Sx :=
  (sSeq (sPar3 2 3 4 (aCons (eFld "SequenceCounter" "start" (eVar 0)) (aCons (eVar 1) (aCons (eNew aNil) aNil))))
    c_SequenceCounter_sequence_7)
def F_SequenceCounter_sequence : Fn := defn 2 8 c_SequenceCounter_sequence
def c_sequences_sequence_at_1 : Sx :=
  (sRet (eMeth "SequenceCounter" "sequence" F_SequenceCounter_sequence (eVar 2) (aCons (eVar 1) aNil)))
def c_sequences_sequence_at_2 : Sx :=
  (sSeq (sIf (eOr (eNot (eFn F_bags_is_count (aCons (eVar 1) aNil))) (eOp gGe (eVar 1) (eMeth "SequenceCounter" "ways" (F_SequenceCounter_ways 16) (eVar 2) (aCons (eFld "SequenceCounter" "start" (eVar 2)) aNil)))) (sRaise "OutOfRange" "value" (eVar 1))
    sNil)
    c_sequences_sequence_at_1)
def c_sequences_sequence_at : Sx :=
  (sSeq (sAsg (eMake "SequenceCounter" F_SequenceCounter_init (aCons (eVar 0) aNil)) (gN 2))
    c_sequences_sequence_at_2)
def F_sequences_sequence_at : Fn := defn 2 3 c_sequences_sequence_at
def c_q_factorial_1 : Sx :=
  (sAsg (eOp gMul (eVar 1) (eOp gAdd (eVar 2) (eC (.int 1)))) (gN 1))
def c_q_factorial_2 : Sx :=
  (sRet (eVar 1))
def c_q_factorial_3 : Sx :=
  (sSeq (sFor [0, 2] (iR1 (eVar 0)) (gN 2) c_q_factorial_1)
    c_q_factorial_2)
def c_q_factorial : Sx :=
  (sSeq (sAsg (eC (.int 1)) (gN 1))
    c_q_factorial_3)
def F_q_factorial : Fn := defn 1 3 c_q_factorial
def c_q_parts_v2_1 : Sx :=
  (sAsg (eOp gAdd (eVar 4) (eLc [6] (iR1 (eOp gAdd (eVar 3) (eC (.int 1)))) (gN 6) fYes (eOp gAdd (eVar 5) (eTup (aCons (eTup (aCons (eVar 2) (aCons (eVar 6) aNil))) aNil))))) (gN 4))
def c_q_parts_v2_2 : Sx :=
  (sAsg (eVar 4) (gN 1))
def c_q_parts_v2_3 : Sx :=
  (sSeq (sFor [0, 1, 5] (iA (eVar 1)) (gN 5) c_q_parts_v2_1)
    c_q_parts_v2_2)
def c_q_parts_v2_4 : Sx :=
  (sSeq (sAsg (eLst aNil) (gN 4))
    c_q_parts_v2_3)
def c_q_parts_v2_5 : Sx :=
  (sRet (eLc [5] (iA (eVar 1)) (gN 5) fYes (eCall nTup (aCons (eLc [7] (iA (eVar 5)) (gN 7) (eOp gGt (eOp gIx (eVar 7) (eC (.int 1))) (eC (.int 0))) (eVar 7)) aNil))))
def c_q_parts_v2_6 : Sx :=
  (sSeq (sFor [0, 2, 3, 4, 5] (iA (eVar 0)) (gT 2 (gsCons (gN 2) (gsCons (gN 3) gsNil))) c_q_parts_v2_4)
    c_q_parts_v2_5)
def c_q_parts_v2 : Sx :=
  (sSeq (sAsg (eLst (aCons (eTup aNil) aNil)) (gN 1))
    c_q_parts_v2_6)
def F_q_parts_v2 : Fn := defn 1 8 c_q_parts_v2
def c_q_swapped : Sx :=
  (sRet (eOp gAdd (eOp gAdd (eSl (eVar 0) oNone (oSome (eVar 1))) (eLst (aCons (eOp gIx (eVar 0) (eOp gAdd (eVar 1) (eC (.int 1)))) (aCons (eOp gIx (eVar 0) (eVar 1)) aNil)))) (eSl (eVar 0) (oSome (eOp gAdd (eVar 1) (eC (.int 2)))) oNone)))
def F_q_swapped : Fn := defn 2 2 c_q_swapped
def c_sequences_parts_of : Sx :=
  (sRet (eFn (F_effects_program_parts 30) (aCons (eCall nTup (aCons (eVar 0) aNil)) aNil)))
def F_sequences_parts_of : Fn := defn 1 1 c_sequences_parts_of
def c_derivations_exchanged : Sx :=
  (sRet (eOp gAdd (eOp gAdd (eSl (eVar 0) oNone (oSome (eVar 1))) (eLst (aCons (eOp gIx (eVar 0) (eOp gAdd (eVar 1) (eC (.int 1)))) (aCons (eOp gIx (eVar 0) (eVar 1)) aNil)))) (eSl (eVar 0) (oSome (eOp gAdd (eVar 1) (eC (.int 2)))) oNone)))
def F_derivations_exchanged : Fn := defn 2 2 c_derivations_exchanged
def c_derivations_is_allowed_1 : Sx :=
  (sRet (eOp gEq (eFn F_sequences_parts_of (aCons (eFn F_derivations_exchanged (aCons (eVar 0) (aCons (eVar 1) aNil))) aNil)) (eFn F_sequences_parts_of (aCons (eVar 0) aNil))))
def c_derivations_is_allowed : Sx :=
  (sSeq (sIf (eOp gEq (eOp gIx (eVar 0) (eVar 1)) (eOp gIx (eVar 0) (eOp gAdd (eVar 1) (eC (.int 1))))) (sRet (eC (.bl false)))
    sNil)
    c_derivations_is_allowed_1)
def F_derivations_is_allowed : Fn := defn 2 2 c_derivations_is_allowed
def c_derivations_allowed_exchanges_1 : Sx :=
  (sRet (eLcN [1] (iR1 (eOp gSubI (eCall nLen (aCons (eVar 0) aNil)) (eC (.int 1)))) (gN 1) (eFn F_derivations_is_allowed (aCons (eVar 0) (aCons (eVar 1) aNil))) (eVar 1)))
def c_derivations_allowed_exchanges : Sx :=
  (sSeq (sExpr (eFn F_sequences_check_sequence (aCons (eVar 0) aNil)))
    c_derivations_allowed_exchanges_1)
def F_derivations_allowed_exchanges : Fn := defn 1 2 c_derivations_allowed_exchanges
def c_q_is_refused_1 : Sx :=
  (sExpr (eFn F_derivations_allowed_exchanges (aCons (eVar 0) aNil)))
def c_q_is_refused_2 : Sx :=
  (sRet (eVar 2))
def c_q_is_refused_3 : Sx :=
  (sSeq (sTry ["InvalidSequence"] c_q_is_refused_1 [⟨"InvalidSequence", some 3, fun x => (sAsg (eOp gEq (xRd 3 "index" x) (eVar 1)) (gN 2))⟩])
    c_q_is_refused_2)
def c_q_is_refused : Sx :=
  (sSeq (sAsg (eC (.bl false)) (gN 2))
    c_q_is_refused_3)
def F_q_is_refused : Fn := defn 2 4 c_q_is_refused
def c_q_call : Sx :=
  (sIf (eOp gEq (eVar 0) (eC (.int 0))) (sExpr (eFn F_histories_heap_after (aCons (eVar 1) (aCons (eVar 2) (aCons (eVar 3) aNil)))))
    (sIf (eOp gEq (eVar 0) (eC (.int 1))) (sExpr (eFn F_histories_removed_at (aCons (eVar 1) (aCons (eVar 2) (aCons (eVar 3) aNil)))))
    (sIf (eOp gEq (eVar 0) (eC (.int 2))) (sExpr (eFn F_histories_fate (aCons (eVar 1) (aCons (eVar 2) (aCons (eVar 3) aNil)))))
    (sIf (eOp gEq (eVar 0) (eC (.int 3))) (sExpr (eFn F_histories_removal_bound (aCons (eVar 2) (aCons (eVar 3) aNil))))
    (sExpr (eFn F_histories_first_failure (aCons (eVar 1) (aCons (eVar 2) aNil))))))))
def F_q_call : Fn := defn 4 4 c_q_call
def c_q_error_v5_1 : Sx :=
  (sExpr (eFn F_q_call (aCons (eVar 0) (aCons (eVar 1) (aCons (eVar 2) (aCons (eVar 3) aNil))))))
def c_q_error_v5_2 : Sx :=
  (sRet (eVar 4))
def c_q_error_v5_3 : Sx :=
  (sSeq (sTry ["InvalidCount", "InvalidBag", "InvalidProgram", "InvalidEffect", "EmptyHeap", "OutOfRange"] c_q_error_v5_1 [⟨"InvalidBag", some 5, fun x => (sAsg (eLst (aCons (eC (.str "bag")) (aCons (eCall nReprD (aCons (xRd 5 "value" x) aNil)) aNil))) (gN 4))⟩, ⟨"InvalidProgram", some 5, fun x => (sAsg (eLst (aCons (eC (.str "program")) (aCons (xRd 5 "path" x) aNil))) (gN 4))⟩, ⟨"OutOfRange", some 5, fun x => (sAsg (eLst (aCons (eC (.str "range")) (aCons (eCall nReprD (aCons (xRd 5 "value" x) aNil)) aNil))) (gN 4))⟩, ⟨"EmptyHeap", some 5, fun x => (sAsg (eLst (aCons (eC (.str "empty")) (aCons (xRd 5 "index" x) aNil))) (gN 4))⟩])
    c_q_error_v5_2)
def c_q_error_v5 : Sx :=
  (sSeq (sAsg (eLst (aCons (eC (.str "answered")) aNil)) (gN 4))
    c_q_error_v5_3)
def F_q_error_v5 : Fn := defn 4 6 c_q_error_v5
def c_effects_move_bag : Sx :=
  (sRet (eCall nTup (aCons (eLc [2, 3] (iA (eVar 0)) (gT 2 (gsCons (gN 2) (gsCons (gN 3) gsNil))) fYes (eTup (aCons (eOp gAdd (eVar 2) (eVar 1)) (aCons (eVar 3) aNil)))) aNil)))
def F_effects_move_bag : Fn := defn 2 4 c_effects_move_bag
def c_Effect_moved_1 : Sx :=
  (sRet (eMake "Effect" F_Effect_init (aCons (eFn F_effects_move_bag (aCons (eProp "Effect" F_Effect_inserted (eVar 0)) (aCons (eVar 1) aNil))) (aCons (eProp "Effect" F_Effect_removals (eVar 0)) (aCons (eFn F_effects_move_bag (aCons (eProp "Effect" F_Effect_survivors (eVar 0)) (aCons (eVar 1) aNil))) aNil)))))
def c_Effect_moved : Sx :=
  (sSeq (sExpr (eFn F_bags_check_number (aCons (eVar 1) aNil)))
    c_Effect_moved_1)
def F_Effect_moved : Fn := defn 2 2 c_Effect_moved
def c_q_outcome_v6_1 : Sx :=
  (sIf (eOp gEq (eVar 0) (eC (.int 0))) (sExpr (eMake "Effect" F_Effect_init (aCons (eVar 1) (aCons (eVar 2) (aCons (eVar 3) aNil)))))
    (sIf (eOp gEq (eVar 0) (eC (.int 1))) (sExpr (eCmt "Effect" F_Effect_of (aCons (eVar 1) aNil)))
    (sIf (eOp gEq (eVar 0) (eC (.int 2))) (sExpr (eMeth "Effect" "apply" F_Effect_apply (eVar 1) (aCons (eVar 2) aNil)))
    (sIf (eOp gEq (eVar 0) (eC (.int 3))) (sExpr (eMeth "Effect" "removed" F_Effect_removed (eVar 1) (aCons (eVar 2) aNil)))
    (sExpr (eMeth "Effect" "moved" F_Effect_moved (eVar 1) (aCons (eVar 2) aNil)))))))
def c_q_outcome_v6_2 : Sx :=
  (sRet (eC .non))
def c_q_outcome_v6 : Sx :=
  (sSeq (sTry ["InvalidNumber", "InvalidCount", "InvalidBag", "InvalidProgram", "InvalidEffect", "EmptyHeap"] c_q_outcome_v6_1 [⟨"InvalidBag", some 4, fun x => (sRet (eLst (aCons (eC (.str "bag")) (aCons (eCall nReprD (aCons (xRd 4 "value" x) aNil)) aNil))))⟩, ⟨"InvalidCount", some 4, fun x => (sRet (eLst (aCons (eC (.str "count")) (aCons (eCall nReprD (aCons (xRd 4 "value" x) aNil)) aNil))))⟩, ⟨"InvalidNumber", some 4, fun x => (sRet (eLst (aCons (eC (.str "number")) (aCons (eCall nReprD (aCons (xRd 4 "value" x) aNil)) aNil))))⟩, ⟨"InvalidProgram", some 4, fun x => (sRet (eLst (aCons (eC (.str "program")) (aCons (xRd 4 "path" x) aNil))))⟩, ⟨"EmptyHeap", some 4, fun x => (sRet (eLst (aCons (eC (.str "empty")) (aCons (xRd 4 "index" x) aNil))))⟩])
    c_q_outcome_v6_2)
def F_q_outcome_v6 : Fn := defn 4 5 c_q_outcome_v6
def c_q_draw_v3_1 : Sx :=
  (sRet (eOp gModI (eOp gDivI (eOp gModI (eOp gMul (eOp gIx (eVar 0) (eC (.int 3))) (eOp gIx (eVar 0) (eC (.int 3)))) (eC (.int 2147483629))) (eC (.int 7))) (eVar 1)))
def c_q_draw_v3_2 : Sx :=
  (sAsg (eVar 2) (gSub (eVar 0) (eC (.int 2))))
def c_q_draw_v3_3 : Sx :=
  (sSeq (sIf (eOp gLt (eVar 2) (eOp gPowI (eC (.int 10)) (eC (.int 18)))) (sSeq (sAsg (eOp gModI (eOp gAdd (eOp gAdd (eOp gMul (eOp gIx (eVar 0) (eC (.int 3))) (eC (.int 48271))) (eOp gModI (eVar 2) (eC (.int 2147483629)))) (eOp gIx (eVar 0) (eC (.int 1)))) (eC (.int 2147483647))) (gSub (eVar 0) (eC (.int 3))))
    c_q_draw_v3_1)
    sNil)
    c_q_draw_v3_2)
def c_q_draw_v3_4 : Sx :=
  (sSeq (sAsg (eOp gAdd (eOp gIx (eVar 0) (eC (.int 1))) (eC (.int 1))) (gSub (eVar 0) (eC (.int 1))))
    c_q_draw_v3_3)
def c_q_draw_v3_5 : Sx :=
  (sRet (eVar 3))
def c_q_draw_v3_6 : Sx :=
  (sSeq (sAsg (eOp gDivI (eOp gIx (eVar 0) (eC (.int 2))) (eVar 1)) (gSub (eVar 0) (eC (.int 2))))
    c_q_draw_v3_5)
def c_q_draw_v3_7 : Sx :=
  (sSeq (sAsg (eOp gModI (eOp gIx (eVar 0) (eC (.int 2))) (eVar 1)) (gN 3))
    c_q_draw_v3_6)
def c_q_draw_v3 : Sx :=
  (sSeq (sIf (eOp gEq (eOp gIx (eVar 0) (eC (.int 2))) (eC (.int 0))) (sSeq (sAsg (eIf (eOp gLt (eOp gIx (eVar 0) (eC (.int 1))) (eCall nLen (aCons (eOp gIx (eVar 0) (eC (.int 0))) aNil))) (eOp gIx (eOp gIx (eVar 0) (eC (.int 0))) (eOp gIx (eVar 0) (eC (.int 1)))) (eC (.int 0))) (gN 2))
    c_q_draw_v3_4)
    sNil)
    c_q_draw_v3_7)
def F_q_draw_v3 : Fn := defn 2 4 c_q_draw_v3
def c_q_great_bag_v2_1 : Sx :=
  (sAsg (eOp gAdd (eVar 2) (eTup (aCons (eTup (aCons (eOp gAdd (eOp gAdd (eVar 1) (eOp gMul (eC (.int 2)) (eVar 3))) (eFn F_q_draw_v3 (aCons (eVar 0) (aCons (eC (.int 2)) aNil)))) (aCons (eVar 4) aNil))) aNil))) (gN 2))
def c_q_great_bag_v2_2 : Sx :=
  (sSeq (sAsg (eOp gIx (eLst (aCons (eOp gAdd (eC (.int 1)) (eFn F_q_draw_v3 (aCons (eVar 0) (aCons (eC (.int 3)) aNil)))) (aCons (eOp gAdd (eC (.int 1)) (eFn F_q_draw_v3 (aCons (eVar 0) (aCons (eOp gPowI (eC (.int 10)) (eC (.int 30))) aNil)))) aNil))) (eFn F_q_draw_v3 (aCons (eVar 0) (aCons (eC (.int 2)) aNil)))) (gN 4))
    c_q_great_bag_v2_1)
def c_q_great_bag_v2_3 : Sx :=
  (sRet (eVar 2))
def c_q_great_bag_v2_4 : Sx :=
  (sSeq (sFor [3, 4] (iR1 (eFn F_q_draw_v3 (aCons (eVar 0) (aCons (eC (.int 5)) aNil)))) (gN 3) c_q_great_bag_v2_2)
    c_q_great_bag_v2_3)
def c_q_great_bag_v2 : Sx :=
  (sSeq (sAsg (eTup aNil) (gN 2))
    c_q_great_bag_v2_4)
def F_q_great_bag_v2 : Fn := defn 2 5 c_q_great_bag_v2
def c_q_result_1 : Sx :=
  (sAsg (eMeth "Effect" "apply" F_Effect_apply (eVar 0) (aCons (eVar 1) aNil)) (gN 2))
def c_q_result_2 : Sx :=
  (sRet (eVar 2))
def c_q_result_3 : Sx :=
  (sSeq (sTry ["InvalidCount", "InvalidBag", "InvalidProgram", "InvalidEffect", "EmptyHeap"] c_q_result_1 [⟨"EmptyHeap", none, fun x => (sAsg (eC .non) (gN 2))⟩])
    c_q_result_2)
def c_q_result : Sx :=
  (sSeq (sAsg (eC .non) (gN 2))
    c_q_result_3)
def F_q_result : Fn := defn 2 3 c_q_result
def c_q_plus_v2_1 : Sx :=
  (sDput (eVar 2) (eVar 3) (eOp gAdd (eDget2 (eVar 2) (eVar 3) (eC (.int 0))) (eVar 4)))
def c_q_plus_v2_2 : Sx :=
  (sRet (eCall nTup (aCons (eLc [3] (iA (eCall nSorted (aCons (eVar 2) aNil))) (gN 3) (eOp gGt (eOp gIx (eVar 2) (eVar 3)) (eC (.int 0))) (eTup (aCons (eVar 3) (aCons (eOp gIx (eVar 2) (eVar 3)) aNil)))) aNil)))
def c_q_plus_v2_3 : Sx :=
  (sSeq (sFor [0, 1, 3, 4] (iA (eVar 1)) (gT 2 (gsCons (gN 3) (gsCons (gN 4) gsNil))) c_q_plus_v2_1)
    c_q_plus_v2_2)
def c_q_plus_v2 : Sx :=
  (sSeq (sAsg (eCall nDict (aCons (eVar 0) aNil)) (gN 2))
    c_q_plus_v2_3)
def F_q_plus_v2 : Fn := defn 2 5 c_q_plus_v2
def c_q_minus_v2_1 : Sx :=
  (sDput (eVar 2) (eVar 3) (eOp gSubI (eDget2 (eVar 2) (eVar 3) (eC (.int 0))) (eVar 4)))
def c_q_minus_v2_2 : Sx :=
  (sRet (eCall nTup (aCons (eLc [3] (iA (eCall nSorted (aCons (eVar 2) aNil))) (gN 3) (eOp gGt (eOp gIx (eVar 2) (eVar 3)) (eC (.int 0))) (eTup (aCons (eVar 3) (aCons (eOp gIx (eVar 2) (eVar 3)) aNil)))) aNil)))
def c_q_minus_v2_3 : Sx :=
  (sSeq (sIf (eOp gNe (eLc [3] (iA (eVar 2)) (gN 3) (eOp gLt (eOp gIx (eVar 2) (eVar 3)) (eC (.int 0))) (eVar 3)) (eLst aNil)) (sRet (eC .non))
    sNil)
    c_q_minus_v2_2)
def c_q_minus_v2_4 : Sx :=
  (sSeq (sFor [0, 1, 3, 4] (iA (eVar 1)) (gT 2 (gsCons (gN 3) (gsCons (gN 4) gsNil))) c_q_minus_v2_1)
    c_q_minus_v2_3)
def c_q_minus_v2 : Sx :=
  (sSeq (sAsg (eCall nDict (aCons (eVar 0) aNil)) (gN 2))
    c_q_minus_v2_4)
def F_q_minus_v2 : Fn := defn 2 5 c_q_minus_v2
def c_q_error_v7_1 : Sx :=
  (sExpr (eFn F_plans_preimage (aCons (eVar 0) (aCons (eVar 1) aNil))))
def c_q_error_v7_2 : Sx :=
  (sRet (eVar 2))
def c_q_error_v7_3 : Sx :=
  (sSeq (sTry ["InvalidCount", "InvalidBag", "InvalidProgram", "InvalidEffect", "EmptyHeap"] c_q_error_v7_1 [⟨"InvalidEffect", some 3, fun x => (sAsg (eLst (aCons (eC (.str "effect")) (aCons (xRd 3 "part" x) aNil))) (gN 2))⟩, ⟨"InvalidBag", some 3, fun x => (sAsg (eLst (aCons (eC (.str "bag")) (aCons (eCall nRepr (aCons (xRd 3 "value" x) aNil)) aNil))) (gN 2))⟩])
    c_q_error_v7_2)
def c_q_error_v7 : Sx :=
  (sSeq (sAsg (eLst (aCons (eC (.str "answered")) aNil)) (gN 2))
    c_q_error_v7_3)
def F_q_error_v7 : Fn := defn 2 4 c_q_error_v7
end HL

namespace DL
open PySem L2 PyProof.Rows PySem.Spec
/-! ### xs.count(x), of data -/
def rCountD (K : PySem.W.Frag) : V → List V → Hp → VK → Prop := fun x xs H Q => ∃ (a : Addr) (y : V) (d : PyData) (ds : List PyData), x = .ref a ∧ xs = [y] ∧ Dp K H (.ref a) (.list ds) ∧ Dp K H y d ∧ SeqAt.shaped (.list ds) = true ∧ SeqAt.shaped d = true ∧ Q (.int (ds.countP fun z => PyData.eqv z d : Nat)) H
section
variable {X : Cx} {W : WX} {o a : Expr} {fo fa : Ev} {pos apos : Pos}
def cntD (x y : D) : Option Nat := match toP x, toP y with
  | some (.list ds), some d => if SeqAt.shaped (.list ds) && SeqAt.shaped d then some (ds.countP fun z => PyData.eqv z d) else none
  | _, _ => none
def mCountD (fo fa : Ev) : Ev := fun env M => (fo env M).bind fun d M1 => match derefL M1 d with
  | some _ => (fa env M1).bind fun y M2 => match cntD (valD M2 d) (valD M2 y) with
    | some n => .ok (.int (n : Nat)) M2
    | none => .st
  | none => .st
end
end DL

namespace L_k19
open PySem PySem.Spec PyProof.Rows L2 DL HL
def FILE : Str := "/claim/cut.py"
def top (i : Nat) : Stmt := PySem.Challenge.pw_heapeffects_k19_errors_of_effects.main.body.getD i (.Pass ⟨0, 0, 0, 0⟩)
def mth (i j : Nat) : Stmt := match top i with
  | .ClassDef _ _ _ b _ _ _ _ _ _ _ => b.getD j (.Pass ⟨0, 0, 0, 0⟩)
  | s => s
abbrev s_q_pool : Stmt := top 38
def d_q_pool : FdX := ⟨fun K => gadr K "_law_pool", "_law_pool", "_law_pool", s_q_pool, [], [], none⟩
abbrev s_q_draw : Stmt := top 39
def d_q_draw : FdX := ⟨fun K => gadr K "_law_draw", "_law_draw", "_law_draw", s_q_draw, [], [], none⟩
abbrev s_bags_is_integer : Stmt := top 10
def d_bags_is_integer : FdX := ⟨fun K => gadr K "is_integer", "is_integer", "is_integer", s_bags_is_integer, [], [], none⟩
abbrev s_bags_is_bag : Stmt := top 12
def d_bags_is_bag : FdX := ⟨fun K => gadr K "is_bag", "is_bag", "is_bag", s_bags_is_bag, [], [], none⟩
abbrev s_bags_check_bag : Stmt := top 15
def d_bags_check_bag : FdX := ⟨fun K => gadr K "check_bag", "check_bag", "check_bag", s_bags_check_bag, [], [], none⟩
abbrev s_bags_is_count : Stmt := top 11
def d_bags_is_count : FdX := ⟨fun K => gadr K "is_count", "is_count", "is_count", s_bags_is_count, [], [], none⟩
abbrev s_bags_check_count : Stmt := top 14
def d_bags_check_count : FdX := ⟨fun K => gadr K "check_count", "check_count", "check_count", s_bags_check_count, [], [], none⟩
abbrev s_bags_from_counts : Stmt := top 16
def d_bags_from_counts : FdX := ⟨fun K => gadr K "from_counts", "from_counts", "from_counts", s_bags_from_counts, [], [], none⟩
abbrev s_bags_subtract : Stmt := top 18
def d_bags_subtract : FdX := ⟨fun K => gadr K "subtract", "subtract", "subtract", s_bags_subtract, [], [], none⟩
abbrev s_bags_total : Stmt := top 19
def d_bags_total : FdX := ⟨fun K => gadr K "total", "total", "total", s_bags_total, [], [], none⟩
abbrev s_effects_find_fault : Stmt := top 34
def d_effects_find_fault : FdX := ⟨fun K => gadr K "find_fault", "find_fault", "find_fault", s_effects_find_fault, [], [], none⟩
abbrev s_Effect_init : Stmt := mth 36 1
def d_Effect_init : FdX := ⟨fun K => cadr K "Effect" "__init__", "__init__", "Effect.__init__", s_Effect_init, [], [], none⟩
abbrev s_q_great_effect : Stmt := top 40
def d_q_great_effect : FdX := ⟨fun K => gadr K "_law_great_effect", "_law_great_effect", "_law_great_effect", s_q_great_effect, [], [], none⟩
abbrev s_programs_is_step : Stmt := top 25
def d_programs_is_step : FdX := ⟨fun K => gadr K "is_step", "is_step", "is_step", s_programs_is_step, [], [], none⟩
abbrev s_programs_find_invalid : Stmt := top 26
def d_programs_find_invalid : FdX := ⟨fun K => gadr K "find_invalid", "find_invalid", "find_invalid", s_programs_find_invalid, [], [], none⟩
abbrev s_programs_check_program : Stmt := top 27
def d_programs_check_program : FdX := ⟨fun K => gadr K "check_program", "check_program", "check_program", s_programs_check_program, [], [], none⟩
abbrev s_bags_drop : Stmt := top 22
def d_bags_drop : FdX := ⟨fun K => gadr K "drop", "drop", "drop", s_bags_drop, [], [], none⟩
abbrev s_bags_add : Stmt := top 17
def d_bags_add : FdX := ⟨fun K => gadr K "add", "add", "add", s_bags_add, [], [], none⟩
abbrev s_effects_join_parts : Stmt := top 30
def d_effects_join_parts : FdX := ⟨fun K => gadr K "join_parts", "join_parts", "join_parts", s_effects_join_parts, [], [], none⟩
abbrev s_bags_scale : Stmt := top 20
def d_bags_scale : FdX := ⟨fun K => gadr K "scale", "scale", "scale", s_bags_scale, [], [], none⟩
abbrev s_effects_repeat_parts : Stmt := top 31
def d_effects_repeat_parts : FdX := ⟨fun K => gadr K "repeat_parts", "repeat_parts", "repeat_parts", s_effects_repeat_parts, [], [], none⟩
abbrev s_effects_program_parts : Stmt := top 33
def d_effects_program_parts : FdX := ⟨fun K => gadr K "program_parts", "program_parts", "program_parts", s_effects_program_parts, [], [], none⟩
abbrev s_effects_step_parts : Stmt := top 32
def d_effects_step_parts : FdX := ⟨fun K => gadr K "step_parts", "step_parts", "step_parts", s_effects_step_parts, [], [], none⟩
abbrev s_Effect_of : Stmt := mth 36 3
def d_Effect_of : FdX := ⟨fun K => wadr K "Effect" "of" "classmethod", "of", "Effect.of", s_Effect_of, [], [], none⟩
abbrev s_Effect_removals : Stmt := mth 36 6
def d_Effect_removals : FdX := ⟨fun K => padr K "Effect" "removals", "removals", "Effect.removals", s_Effect_removals, [], [], none⟩
abbrev s_Effect_needed : Stmt := mth 36 9
def d_Effect_needed : FdX := ⟨fun K => padr K "Effect" "needed", "needed", "Effect.needed", s_Effect_needed, [], [], none⟩
abbrev s_Effect_consumed : Stmt := mth 36 8
def d_Effect_consumed : FdX := ⟨fun K => padr K "Effect" "consumed", "consumed", "Effect.consumed", s_Effect_consumed, [], [], none⟩
abbrev s_Effect_pool : Stmt := mth 36 10
def d_Effect_pool : FdX := ⟨fun K => cadr K "Effect" "pool", "pool", "Effect.pool", s_Effect_pool, [], [], none⟩
abbrev s_Effect_survivors : Stmt := mth 36 7
def d_Effect_survivors : FdX := ⟨fun K => padr K "Effect" "survivors", "survivors", "Effect.survivors", s_Effect_survivors, [], [], none⟩
abbrev s_Effect_apply : Stmt := mth 36 11
def d_Effect_apply : FdX := ⟨fun K => cadr K "Effect" "apply", "apply", "Effect.apply", s_Effect_apply, [], [], none⟩
abbrev s_bags_take : Stmt := top 21
def d_bags_take : FdX := ⟨fun K => gadr K "take", "take", "take", s_bags_take, [], [], none⟩
abbrev s_Effect_removed : Stmt := mth 36 12
def d_Effect_removed : FdX := ⟨fun K => cadr K "Effect" "removed", "removed", "Effect.removed", s_Effect_removed, [], [], none⟩
abbrev s_bags_check_number : Stmt := top 13
def d_bags_check_number : FdX := ⟨fun K => gadr K "check_number", "check_number", "check_number", s_bags_check_number, [], [], none⟩
abbrev s_effects_move_bag : Stmt := top 35
def d_effects_move_bag : FdX := ⟨fun K => gadr K "move_bag", "move_bag", "move_bag", s_effects_move_bag, [], [], none⟩
abbrev s_Effect_inserted : Stmt := mth 36 5
def d_Effect_inserted : FdX := ⟨fun K => padr K "Effect" "inserted", "inserted", "Effect.inserted", s_Effect_inserted, [], [], none⟩
abbrev s_Effect_moved : Stmt := mth 36 14
def d_Effect_moved : FdX := ⟨fun K => cadr K "Effect" "moved", "moved", "Effect.moved", s_Effect_moved, [], [], none⟩
abbrev s_q_outcome_v6 : Stmt := top 41
def d_q_outcome_v6 : FdX := ⟨fun K => gadr K "_law_outcome", "_law_outcome", "_law_outcome", s_q_outcome_v6, [], [], none⟩
abbrev s_Effect_is_valid : Stmt := mth 36 2
def d_Effect_is_valid : FdX := ⟨fun K => wadr K "Effect" "is_valid" "staticmethod", "is_valid", "Effect.is_valid", s_Effect_is_valid, [], [], none⟩
abbrev s_law : Stmt := top 42
def d_law : FdX := ⟨fun K => gadr K "law", "law", "law", s_law, [], [], none⟩
abbrev s_InvalidBag_init : Stmt := mth 5 0
def d_InvalidBag_init : FdX := ⟨fun K => cadr K "InvalidBag" "__init__", "__init__", "InvalidBag.__init__", s_InvalidBag_init, [], [], some ("InvalidBag", FILE)⟩
abbrev s_InvalidCount_init : Stmt := mth 4 0
def d_InvalidCount_init : FdX := ⟨fun K => cadr K "InvalidCount" "__init__", "__init__", "InvalidCount.__init__", s_InvalidCount_init, [], [], some ("InvalidCount", FILE)⟩
abbrev s_InvalidEffect_init : Stmt := mth 7 0
def d_InvalidEffect_init : FdX := ⟨fun K => cadr K "InvalidEffect" "__init__", "__init__", "InvalidEffect.__init__", s_InvalidEffect_init, [], [], some ("InvalidEffect", FILE)⟩
abbrev s_InvalidProgram_init : Stmt := mth 6 0
def d_InvalidProgram_init : FdX := ⟨fun K => cadr K "InvalidProgram" "__init__", "__init__", "InvalidProgram.__init__", s_InvalidProgram_init, [], [], some ("InvalidProgram", FILE)⟩
abbrev s_EmptyHeap_init : Stmt := mth 8 0
def d_EmptyHeap_init : FdX := ⟨fun K => cadr K "EmptyHeap" "__init__", "__init__", "EmptyHeap.__init__", s_EmptyHeap_init, [], [], some ("EmptyHeap", FILE)⟩
abbrev s_InvalidNumber_init : Stmt := mth 3 0
def d_InvalidNumber_init : FdX := ⟨fun K => cadr K "InvalidNumber" "__init__", "__init__", "InvalidNumber.__init__", s_InvalidNumber_init, [], [], some ("InvalidNumber", FILE)⟩
def fn : List FdX := [d_q_pool, d_q_draw, d_bags_is_integer, d_bags_is_bag, d_bags_check_bag, d_bags_is_count, d_bags_check_count, d_bags_from_counts, d_bags_subtract, d_bags_total, d_effects_find_fault, d_Effect_init, d_q_great_effect, d_programs_is_step, d_programs_find_invalid, d_programs_check_program, d_bags_drop, d_bags_add, d_effects_join_parts, d_bags_scale, d_effects_repeat_parts, d_effects_program_parts, d_effects_step_parts, d_Effect_of, d_Effect_removals, d_Effect_needed, d_Effect_consumed, d_Effect_pool, d_Effect_survivors, d_Effect_apply, d_bags_take, d_Effect_removed, d_bags_check_number, d_effects_move_bag, d_Effect_inserted, d_Effect_moved, d_q_outcome_v6, d_Effect_is_valid, d_law, d_InvalidBag_init, d_InvalidCount_init, d_InvalidEffect_init, d_InvalidProgram_init, d_EmptyHeap_init, d_InvalidNumber_init]
def ft : List Ft := [(tGlo "law"), (tFree "range"), (tFree "max"), (tFree "min"), (tFree "len"), (tGlo "_law_pool"), (tFree "sum"), (tFree "abs"), (tFree "int"), (tGlo "_law_great_effect"), (tGlo "_law_draw"), (tFree "tuple"), (tGlo "Effect"), (tCls "Effect"), (tGlo "check_bag"), (tGlo "is_bag"), (tFree "isinstance"), (tGlo "is_integer"), (tFree "bool"), (tGlo "InvalidBag"), (tFree "super"), (tExc "InvalidBag" "value" DX.bVE), (tGlo "check_count"), (tGlo "is_count"), (tGlo "InvalidCount"), (tExc "InvalidCount" "value" DX.bVE), (tGlo "find_fault"), (tGlo "subtract"), (tFree "dict"), (tFree "any"), (tGlo "from_counts"), (tFree "sorted"), (tGlo "total"), (tGlo "InvalidEffect"), (tExc "InvalidEffect" "part" DX.bVE), (tNoat "Effect" "own_parts"), (tMk "Effect"), (tGlo "_law_outcome"), (tWrap "Effect" "of" "classmethod" "classmethod.__get__"), (tGlo "check_program"), (tGlo "find_invalid"), (tFree "enumerate"), (tGlo "is_step"), (tCst "MAX_DEPTH" (.int 8)), (tGlo "InvalidProgram"), (tExc "InvalidProgram" "path" DX.bVE), (tGlo "program_parts"), (tGlo "step_parts"), (tCst "IDENTITY" (.tup [.tup [], .int 0, .tup []])), (tGlo "join_parts"), (tGlo "drop"), (tGlo "add"), (tGlo "repeat_parts"), (tGlo "scale"), (tMeth "Effect" "apply"), (tProp "Effect" "removals"), (tMeth "Effect" "pool"), (tProp "Effect" "needed"), (tGlo "EmptyHeap"), (tExc "EmptyHeap" "index" DX.bLE), (tProp "Effect" "consumed"), (tProp "Effect" "survivors"), (tMeth "Effect" "removed"), (tGlo "take"), (tMeth "Effect" "moved"), (tGlo "check_number"), (tGlo "InvalidNumber"), (tExc "InvalidNumber" "value" DX.bVE), (tGlo "move_bag"), (tProp "Effect" "inserted"), (tExm ["InvalidNumber", "InvalidCount", "InvalidBag", "InvalidProgram", "InvalidEffect", "EmptyHeap"] ["InvalidBag", "InvalidCount", "InvalidNumber", "InvalidProgram", "EmptyHeap"]), (tXf "EmptyHeap" "index"), (tXf "InvalidProgram" "path"), (tXf "InvalidNumber" "value"), (tFree "repr"), (tXf "InvalidCount" "value"), (tXf "InvalidBag" "value"), (tWrap "Effect" "is_valid" "staticmethod" "staticmethod.__get__")]
structure Hd (P : Program) (K : PySem.W.Frag) (mg : Str → Option Value) (base : Heap) : Prop where
  kin : K.In base
  ns : base.Ns mainGlobals mg
  says : Says ft fn K
  pf : DX.Pf P FILE
section
variable {P : Program} {K : PySem.W.Frag} {mg : Str → Option Value} {base : Heap}
theorem Hd.glo_law (Y : Hd P K mg base) : mg "law" = some (.ref (gadr K "law")) := tGlo_ok Y.kin Y.ns (Y.says.fact 0 (f := (tGlo "law")) rfl)
theorem Hd.free_range (Y : Hd P K mg base) : mg "range" = none := tFree_ok Y.kin Y.ns (Y.says.fact 1 (f := (tFree "range")) rfl)
theorem Hd.free_max (Y : Hd P K mg base) : mg "max" = none := tFree_ok Y.kin Y.ns (Y.says.fact 2 (f := (tFree "max")) rfl)
theorem Hd.free_min (Y : Hd P K mg base) : mg "min" = none := tFree_ok Y.kin Y.ns (Y.says.fact 3 (f := (tFree "min")) rfl)
theorem Hd.free_len (Y : Hd P K mg base) : mg "len" = none := tFree_ok Y.kin Y.ns (Y.says.fact 4 (f := (tFree "len")) rfl)
theorem Hd.glo__law_pool (Y : Hd P K mg base) : mg "_law_pool" = some (.ref (gadr K "_law_pool")) := tGlo_ok Y.kin Y.ns (Y.says.fact 5 (f := (tGlo "_law_pool")) rfl)
theorem Hd.free_sum (Y : Hd P K mg base) : mg "sum" = none := tFree_ok Y.kin Y.ns (Y.says.fact 6 (f := (tFree "sum")) rfl)
theorem Hd.free_abs (Y : Hd P K mg base) : mg "abs" = none := tFree_ok Y.kin Y.ns (Y.says.fact 7 (f := (tFree "abs")) rfl)
theorem Hd.free_int (Y : Hd P K mg base) : mg "int" = none := tFree_ok Y.kin Y.ns (Y.says.fact 8 (f := (tFree "int")) rfl)
theorem Hd.glo__law_great_effect (Y : Hd P K mg base) : mg "_law_great_effect" = some (.ref (gadr K "_law_great_effect")) := tGlo_ok Y.kin Y.ns (Y.says.fact 9 (f := (tGlo "_law_great_effect")) rfl)
theorem Hd.glo__law_draw (Y : Hd P K mg base) : mg "_law_draw" = some (.ref (gadr K "_law_draw")) := tGlo_ok Y.kin Y.ns (Y.says.fact 10 (f := (tGlo "_law_draw")) rfl)
theorem Hd.free_tuple (Y : Hd P K mg base) : mg "tuple" = none := tFree_ok Y.kin Y.ns (Y.says.fact 11 (f := (tFree "tuple")) rfl)
theorem Hd.glo_Effect (Y : Hd P K mg base) : mg "Effect" = some (.ref (gadr K "Effect")) := tGlo_ok Y.kin Y.ns (Y.says.fact 12 (f := (tGlo "Effect")) rfl)
theorem Hd.cls_Effect (Y : Hd P K mg base) : Cls K (gadr K "Effect") := tCls_ok (Y.says.fact 13 (f := (tCls "Effect")) rfl)
theorem Hd.glo_check_bag (Y : Hd P K mg base) : mg "check_bag" = some (.ref (gadr K "check_bag")) := tGlo_ok Y.kin Y.ns (Y.says.fact 14 (f := (tGlo "check_bag")) rfl)
theorem Hd.glo_is_bag (Y : Hd P K mg base) : mg "is_bag" = some (.ref (gadr K "is_bag")) := tGlo_ok Y.kin Y.ns (Y.says.fact 15 (f := (tGlo "is_bag")) rfl)
theorem Hd.free_isinstance (Y : Hd P K mg base) : mg "isinstance" = none := tFree_ok Y.kin Y.ns (Y.says.fact 16 (f := (tFree "isinstance")) rfl)
theorem Hd.glo_is_integer (Y : Hd P K mg base) : mg "is_integer" = some (.ref (gadr K "is_integer")) := tGlo_ok Y.kin Y.ns (Y.says.fact 17 (f := (tGlo "is_integer")) rfl)
theorem Hd.free_bool (Y : Hd P K mg base) : mg "bool" = none := tFree_ok Y.kin Y.ns (Y.says.fact 18 (f := (tFree "bool")) rfl)
theorem Hd.glo_InvalidBag (Y : Hd P K mg base) : mg "InvalidBag" = some (.ref (gadr K "InvalidBag")) := tGlo_ok Y.kin Y.ns (Y.says.fact 19 (f := (tGlo "InvalidBag")) rfl)
theorem Hd.free_super (Y : Hd P K mg base) : mg "super" = none := tFree_ok Y.kin Y.ns (Y.says.fact 20 (f := (tFree "super")) rfl)
theorem Hd.glo_check_count (Y : Hd P K mg base) : mg "check_count" = some (.ref (gadr K "check_count")) := tGlo_ok Y.kin Y.ns (Y.says.fact 22 (f := (tGlo "check_count")) rfl)
theorem Hd.glo_is_count (Y : Hd P K mg base) : mg "is_count" = some (.ref (gadr K "is_count")) := tGlo_ok Y.kin Y.ns (Y.says.fact 23 (f := (tGlo "is_count")) rfl)
theorem Hd.glo_InvalidCount (Y : Hd P K mg base) : mg "InvalidCount" = some (.ref (gadr K "InvalidCount")) := tGlo_ok Y.kin Y.ns (Y.says.fact 24 (f := (tGlo "InvalidCount")) rfl)
theorem Hd.glo_find_fault (Y : Hd P K mg base) : mg "find_fault" = some (.ref (gadr K "find_fault")) := tGlo_ok Y.kin Y.ns (Y.says.fact 26 (f := (tGlo "find_fault")) rfl)
theorem Hd.glo_subtract (Y : Hd P K mg base) : mg "subtract" = some (.ref (gadr K "subtract")) := tGlo_ok Y.kin Y.ns (Y.says.fact 27 (f := (tGlo "subtract")) rfl)
theorem Hd.free_dict (Y : Hd P K mg base) : mg "dict" = none := tFree_ok Y.kin Y.ns (Y.says.fact 28 (f := (tFree "dict")) rfl)
theorem Hd.free_any (Y : Hd P K mg base) : mg "any" = none := tFree_ok Y.kin Y.ns (Y.says.fact 29 (f := (tFree "any")) rfl)
theorem Hd.glo_from_counts (Y : Hd P K mg base) : mg "from_counts" = some (.ref (gadr K "from_counts")) := tGlo_ok Y.kin Y.ns (Y.says.fact 30 (f := (tGlo "from_counts")) rfl)
theorem Hd.free_sorted (Y : Hd P K mg base) : mg "sorted" = none := tFree_ok Y.kin Y.ns (Y.says.fact 31 (f := (tFree "sorted")) rfl)
theorem Hd.glo_total (Y : Hd P K mg base) : mg "total" = some (.ref (gadr K "total")) := tGlo_ok Y.kin Y.ns (Y.says.fact 32 (f := (tGlo "total")) rfl)
theorem Hd.glo_InvalidEffect (Y : Hd P K mg base) : mg "InvalidEffect" = some (.ref (gadr K "InvalidEffect")) := tGlo_ok Y.kin Y.ns (Y.says.fact 33 (f := (tGlo "InvalidEffect")) rfl)
theorem Hd.noat_Effect_own_parts (Y : Hd P K mg base) : NoAttr K (gadr K "Effect") "own_parts" := tNoat_ok (Y.says.fact 35 (f := (tNoat "Effect" "own_parts")) rfl)
theorem Hd.glo__law_outcome (Y : Hd P K mg base) : mg "_law_outcome" = some (.ref (gadr K "_law_outcome")) := tGlo_ok Y.kin Y.ns (Y.says.fact 37 (f := (tGlo "_law_outcome")) rfl)
theorem Hd.glo_check_program (Y : Hd P K mg base) : mg "check_program" = some (.ref (gadr K "check_program")) := tGlo_ok Y.kin Y.ns (Y.says.fact 39 (f := (tGlo "check_program")) rfl)
theorem Hd.glo_find_invalid (Y : Hd P K mg base) : mg "find_invalid" = some (.ref (gadr K "find_invalid")) := tGlo_ok Y.kin Y.ns (Y.says.fact 40 (f := (tGlo "find_invalid")) rfl)
theorem Hd.free_enumerate (Y : Hd P K mg base) : mg "enumerate" = none := tFree_ok Y.kin Y.ns (Y.says.fact 41 (f := (tFree "enumerate")) rfl)
theorem Hd.glo_is_step (Y : Hd P K mg base) : mg "is_step" = some (.ref (gadr K "is_step")) := tGlo_ok Y.kin Y.ns (Y.says.fact 42 (f := (tGlo "is_step")) rfl)
theorem Hd.de_cst_MAX_DEPTH {X : Cx} {W : WX} {pos : Pos} (Y : Hd X.prog X.K X.mg X.base) (hg : Gl X "MAX_DEPTH") : DE X W (.Name "MAX_DEPTH" pos) (eC (.int 8)) := by
  obtain ⟨u, v, h1, h2, h3⟩ := tCst_ok Y.kin Y.ns (Y.says.fact 43 (f := (tCst "MAX_DEPTH" (.int 8))) rfl)
  exact de_gcon hg h1 h2 h3
theorem Hd.glo_InvalidProgram (Y : Hd P K mg base) : mg "InvalidProgram" = some (.ref (gadr K "InvalidProgram")) := tGlo_ok Y.kin Y.ns (Y.says.fact 44 (f := (tGlo "InvalidProgram")) rfl)
theorem Hd.glo_program_parts (Y : Hd P K mg base) : mg "program_parts" = some (.ref (gadr K "program_parts")) := tGlo_ok Y.kin Y.ns (Y.says.fact 46 (f := (tGlo "program_parts")) rfl)
theorem Hd.glo_step_parts (Y : Hd P K mg base) : mg "step_parts" = some (.ref (gadr K "step_parts")) := tGlo_ok Y.kin Y.ns (Y.says.fact 47 (f := (tGlo "step_parts")) rfl)
theorem Hd.de_cst_IDENTITY {X : Cx} {W : WX} {pos : Pos} (Y : Hd X.prog X.K X.mg X.base) (hg : Gl X "IDENTITY") : DE X W (.Name "IDENTITY" pos) (eC (.tup [.tup [], .int 0, .tup []])) := by
  obtain ⟨u, v, h1, h2, h3⟩ := tCst_ok Y.kin Y.ns (Y.says.fact 48 (f := (tCst "IDENTITY" (.tup [.tup [], .int 0, .tup []]))) rfl)
  exact de_gcon hg h1 h2 h3
theorem Hd.glo_join_parts (Y : Hd P K mg base) : mg "join_parts" = some (.ref (gadr K "join_parts")) := tGlo_ok Y.kin Y.ns (Y.says.fact 49 (f := (tGlo "join_parts")) rfl)
theorem Hd.glo_drop (Y : Hd P K mg base) : mg "drop" = some (.ref (gadr K "drop")) := tGlo_ok Y.kin Y.ns (Y.says.fact 50 (f := (tGlo "drop")) rfl)
theorem Hd.glo_add (Y : Hd P K mg base) : mg "add" = some (.ref (gadr K "add")) := tGlo_ok Y.kin Y.ns (Y.says.fact 51 (f := (tGlo "add")) rfl)
theorem Hd.glo_repeat_parts (Y : Hd P K mg base) : mg "repeat_parts" = some (.ref (gadr K "repeat_parts")) := tGlo_ok Y.kin Y.ns (Y.says.fact 52 (f := (tGlo "repeat_parts")) rfl)
theorem Hd.glo_scale (Y : Hd P K mg base) : mg "scale" = some (.ref (gadr K "scale")) := tGlo_ok Y.kin Y.ns (Y.says.fact 53 (f := (tGlo "scale")) rfl)
theorem Hd.glo_EmptyHeap (Y : Hd P K mg base) : mg "EmptyHeap" = some (.ref (gadr K "EmptyHeap")) := tGlo_ok Y.kin Y.ns (Y.says.fact 58 (f := (tGlo "EmptyHeap")) rfl)
theorem Hd.glo_take (Y : Hd P K mg base) : mg "take" = some (.ref (gadr K "take")) := tGlo_ok Y.kin Y.ns (Y.says.fact 63 (f := (tGlo "take")) rfl)
theorem Hd.glo_check_number (Y : Hd P K mg base) : mg "check_number" = some (.ref (gadr K "check_number")) := tGlo_ok Y.kin Y.ns (Y.says.fact 65 (f := (tGlo "check_number")) rfl)
theorem Hd.glo_InvalidNumber (Y : Hd P K mg base) : mg "InvalidNumber" = some (.ref (gadr K "InvalidNumber")) := tGlo_ok Y.kin Y.ns (Y.says.fact 66 (f := (tGlo "InvalidNumber")) rfl)
theorem Hd.glo_move_bag (Y : Hd P K mg base) : mg "move_bag" = some (.ref (gadr K "move_bag")) := tGlo_ok Y.kin Y.ns (Y.says.fact 68 (f := (tGlo "move_bag")) rfl)
theorem Hd.exm_InvalidBag_InvalidCount_InvalidNumber_InvalidProgram_EmptyHeap (Y : Hd P K mg base) : tExm ["InvalidNumber", "InvalidCount", "InvalidBag", "InvalidProgram", "InvalidEffect", "EmptyHeap"] ["InvalidBag", "InvalidCount", "InvalidNumber", "InvalidProgram", "EmptyHeap"] K = true := (Y.says.fact 70 (f := (tExm ["InvalidNumber", "InvalidCount", "InvalidBag", "InvalidProgram", "InvalidEffect", "EmptyHeap"] ["InvalidBag", "InvalidCount", "InvalidNumber", "InvalidProgram", "EmptyHeap"])) rfl)
theorem Hd.xf_EmptyHeap_index (Y : Hd P K mg base) : XfC K (gadr K "EmptyHeap") ∧ PySem.W.findIn K (.ref (gadr K "EmptyHeap")) "index" = some none := tXf_ok (Y.says.fact 71 (f := (tXf "EmptyHeap" "index")) rfl)
theorem Hd.xf_InvalidProgram_path (Y : Hd P K mg base) : XfC K (gadr K "InvalidProgram") ∧ PySem.W.findIn K (.ref (gadr K "InvalidProgram")) "path" = some none := tXf_ok (Y.says.fact 72 (f := (tXf "InvalidProgram" "path")) rfl)
theorem Hd.xf_InvalidNumber_value (Y : Hd P K mg base) : XfC K (gadr K "InvalidNumber") ∧ PySem.W.findIn K (.ref (gadr K "InvalidNumber")) "value" = some none := tXf_ok (Y.says.fact 73 (f := (tXf "InvalidNumber" "value")) rfl)
theorem Hd.free_repr (Y : Hd P K mg base) : mg "repr" = none := tFree_ok Y.kin Y.ns (Y.says.fact 74 (f := (tFree "repr")) rfl)
theorem Hd.xf_InvalidCount_value (Y : Hd P K mg base) : XfC K (gadr K "InvalidCount") ∧ PySem.W.findIn K (.ref (gadr K "InvalidCount")) "value" = some none := tXf_ok (Y.says.fact 75 (f := (tXf "InvalidCount" "value")) rfl)
theorem Hd.xf_InvalidBag_value (Y : Hd P K mg base) : XfC K (gadr K "InvalidBag") ∧ PySem.W.findIn K (.ref (gadr K "InvalidBag")) "value" = some none := tXf_ok (Y.says.fact 76 (f := (tXf "InvalidBag" "value")) rfl)
theorem tx_InvalidBag : DX.Txt (defBody s_InvalidBag_init) (defArgs s_InvalidBag_init) (defScope s_InvalidBag_init) "value" :=
  ⟨⟨_, _, _, _, _, _, _, _, _, _, _, _, fun env => ⟨_, rfl⟩, rfl⟩, ⟨_, rfl, rfl⟩, by decide +kernel, by decide +kernel, by decide +kernel, by decide +kernel, by decide +kernel, rfl, rfl, rfl, by decide +kernel, by decide +kernel⟩
theorem Hd.exc_InvalidBag (Y : Hd P K mg base) : DX.Fx K FILE "value" DX.bVE (gadr K "InvalidBag") (cadr K "InvalidBag" "__init__") :=
  tExc_ok (Y.says.fact 21 (f := (tExc "InvalidBag" "value" DX.bVE)) rfl) rfl rfl (Y.says.exc_ 39 (d := d_InvalidBag_init) rfl (q := ("InvalidBag", FILE)) rfl) rfl tx_InvalidBag fun _ _ _ _ _ _ _ _ _ _ => BindsTo.of_eq (by rfl)
theorem tx_InvalidCount : DX.Txt (defBody s_InvalidCount_init) (defArgs s_InvalidCount_init) (defScope s_InvalidCount_init) "value" :=
  ⟨⟨_, _, _, _, _, _, _, _, _, _, _, _, fun env => ⟨_, rfl⟩, rfl⟩, ⟨_, rfl, rfl⟩, by decide +kernel, by decide +kernel, by decide +kernel, by decide +kernel, by decide +kernel, rfl, rfl, rfl, by decide +kernel, by decide +kernel⟩
theorem Hd.exc_InvalidCount (Y : Hd P K mg base) : DX.Fx K FILE "value" DX.bVE (gadr K "InvalidCount") (cadr K "InvalidCount" "__init__") :=
  tExc_ok (Y.says.fact 25 (f := (tExc "InvalidCount" "value" DX.bVE)) rfl) rfl rfl (Y.says.exc_ 40 (d := d_InvalidCount_init) rfl (q := ("InvalidCount", FILE)) rfl) rfl tx_InvalidCount fun _ _ _ _ _ _ _ _ _ _ => BindsTo.of_eq (by rfl)
theorem tx_InvalidEffect : DX.Txt (defBody s_InvalidEffect_init) (defArgs s_InvalidEffect_init) (defScope s_InvalidEffect_init) "part" :=
  ⟨⟨_, _, _, _, _, _, _, _, _, _, _, _, fun env => ⟨_, rfl⟩, rfl⟩, ⟨_, rfl, rfl⟩, by decide +kernel, by decide +kernel, by decide +kernel, by decide +kernel, by decide +kernel, rfl, rfl, rfl, by decide +kernel, by decide +kernel⟩
theorem Hd.exc_InvalidEffect (Y : Hd P K mg base) : DX.Fx K FILE "part" DX.bVE (gadr K "InvalidEffect") (cadr K "InvalidEffect" "__init__") :=
  tExc_ok (Y.says.fact 34 (f := (tExc "InvalidEffect" "part" DX.bVE)) rfl) rfl rfl (Y.says.exc_ 41 (d := d_InvalidEffect_init) rfl (q := ("InvalidEffect", FILE)) rfl) rfl tx_InvalidEffect fun _ _ _ _ _ _ _ _ _ _ => BindsTo.of_eq (by rfl)
theorem tx_InvalidProgram : DX.Txt (defBody s_InvalidProgram_init) (defArgs s_InvalidProgram_init) (defScope s_InvalidProgram_init) "path" :=
  ⟨⟨_, _, _, _, _, _, _, _, _, _, _, _, fun env => ⟨_, rfl⟩, rfl⟩, ⟨_, rfl, rfl⟩, by decide +kernel, by decide +kernel, by decide +kernel, by decide +kernel, by decide +kernel, rfl, rfl, rfl, by decide +kernel, by decide +kernel⟩
theorem Hd.exc_InvalidProgram (Y : Hd P K mg base) : DX.Fx K FILE "path" DX.bVE (gadr K "InvalidProgram") (cadr K "InvalidProgram" "__init__") :=
  tExc_ok (Y.says.fact 45 (f := (tExc "InvalidProgram" "path" DX.bVE)) rfl) rfl rfl (Y.says.exc_ 42 (d := d_InvalidProgram_init) rfl (q := ("InvalidProgram", FILE)) rfl) rfl tx_InvalidProgram fun _ _ _ _ _ _ _ _ _ _ => BindsTo.of_eq (by rfl)
theorem tx_EmptyHeap : DX.Txt (defBody s_EmptyHeap_init) (defArgs s_EmptyHeap_init) (defScope s_EmptyHeap_init) "index" :=
  ⟨⟨_, _, _, _, _, _, _, _, _, _, _, _, fun env => ⟨_, rfl⟩, rfl⟩, ⟨_, rfl, rfl⟩, by decide +kernel, by decide +kernel, by decide +kernel, by decide +kernel, by decide +kernel, rfl, rfl, rfl, by decide +kernel, by decide +kernel⟩
theorem Hd.exc_EmptyHeap (Y : Hd P K mg base) : DX.Fx K FILE "index" DX.bLE (gadr K "EmptyHeap") (cadr K "EmptyHeap" "__init__") :=
  tExc_ok (Y.says.fact 59 (f := (tExc "EmptyHeap" "index" DX.bLE)) rfl) rfl rfl (Y.says.exc_ 43 (d := d_EmptyHeap_init) rfl (q := ("EmptyHeap", FILE)) rfl) rfl tx_EmptyHeap fun _ _ _ _ _ _ _ _ _ _ => BindsTo.of_eq (by rfl)
theorem tx_InvalidNumber : DX.Txt (defBody s_InvalidNumber_init) (defArgs s_InvalidNumber_init) (defScope s_InvalidNumber_init) "value" :=
  ⟨⟨_, _, _, _, _, _, _, _, _, _, _, _, fun env => ⟨_, rfl⟩, rfl⟩, ⟨_, rfl, rfl⟩, by decide +kernel, by decide +kernel, by decide +kernel, by decide +kernel, by decide +kernel, rfl, rfl, rfl, by decide +kernel, by decide +kernel⟩
theorem Hd.exc_InvalidNumber (Y : Hd P K mg base) : DX.Fx K FILE "value" DX.bVE (gadr K "InvalidNumber") (cadr K "InvalidNumber" "__init__") :=
  tExc_ok (Y.says.fact 67 (f := (tExc "InvalidNumber" "value" DX.bVE)) rfl) rfl rfl (Y.says.exc_ 44 (d := d_InvalidNumber_init) rfl (q := ("InvalidNumber", FILE)) rfl) rfl tx_InvalidNumber fun _ _ _ _ _ _ _ _ _ _ => BindsTo.of_eq (by rfl)
end
theorem sc_q_pool : FnScope ["_law_script", "_law_k", "_law_cell", "_law_great", "_law_mixed"] ["_law_script", "_law_k"] (defScope s_q_pool) := ⟨rfl, rfl, rfl, by decide +kernel, rfl, by decide +kernel, by decide +kernel⟩
theorem Hd.b_q_pool {P : Program} {w : World} {K : PySem.W.Frag} {mg : Str → Option Value} {base : Heap} (Y : Hd P K mg base) (cdv : Value) (A : Around) (outer : List PySem.Env) (s : Shared) (H : Hp) (E : XK) (a : Addr) (hr : DL.Room 0 (A.deeper (envOfC "_law_pool" (defScope s_q_pool) s.heap.objs.size a cdv))) :
    DB (cxOf (L2.CX P w) P w K mg base ["_law_script", "_law_k", "_law_cell", "_law_great", "_law_mixed"] "_law_pool" (defScope s_q_pool) a cdv A outer s H E) (fun c d _ H => E c d H) (defBody s_q_pool) c_q_pool :=
  (db_cons (ds_set 2 sc_q_pool.nd (de_op opd_add (de_op opd_mul de_int (by exact (de_callB (cd_sum rfl) rfl (Y.free_sum) rfl (da_cons (de_sl (de_var 0) do_none (do_some de_int)) da_nil)))) (de_var 1)))
    (db_cons (ds_if (dt_cmp opd_lt (de_var 1) (by exact (de_callB cd_len rfl (Y.free_len) rfl (da_cons (de_var 0) da_nil))) (nomark _)) (db_one (ds_set 2 sc_q_pool.nd (de_ix (de_var 0) (de_var 1))))
    db_nil)
    (db_cons (ds_set 3 sc_q_pool.nd (by exact (de_callB cd_abs rfl (Y.free_abs) rfl (da_cons (de_var 2) da_nil))))
    (db_cons (ds_set 4 sc_q_pool.nd (de_op opd_modI (de_op opd_mul (de_op opd_add (de_op opd_add (de_op opd_add (de_op opd_modI (de_var 3) de_int) (de_op opd_mul (de_op opd_mul de_int (de_var 1)) (de_var 1))) (de_op opd_mul de_int (de_var 1))) de_int) de_int) de_int))
    (db_one (ds_ret (de_new (da_cons (de_op opd_mul (de_var 3) (by exact (de_callTy cd_int rfl (Y.free_int) rfl (da_cons (de_cmp opd_ge (de_var 3) (de_op opd_powI de_int de_int) (nomark _)) da_nil)))) (da_cons (de_op opd_modI (de_op opd_mul (de_var 4) (de_var 4)) de_int) da_nil)))))))))
theorem Hd.ok_q_pool {P : Program} {w : World} {K : PySem.W.Frag} {mg : Str → Option Value} {base : Heap} (Y : Hd P K mg base) : CalD P w K mg base 1 "_law_pool" 2 F_q_pool :=
  by obtain ⟨fd_q_pool, D_q_pool⟩ := Y.says.def_ 0 (d := d_q_pool) rfl; exact ⟨Y.glo__law_pool, D_q_pool.kp, fd_q_pool, ["_law_script", "_law_k"], rfl, fn_ok D_q_pool sc_q_pool fun cdv A outer s H E hr => Y.b_q_pool cdv A outer s H E _ hr, D_q_pool.bindsN fun _ _ _ _ _ _ us hl => match us, hl with | [_, _], _ => rfl⟩
theorem sc_q_draw : FnScope ["_law_pool_here", "_law_many", "_law_found"] ["_law_pool_here", "_law_many"] (defScope s_q_draw) := ⟨rfl, rfl, rfl, by decide +kernel, rfl, by decide +kernel, by decide +kernel⟩
theorem Hd.b_q_draw {P : Program} {w : World} {K : PySem.W.Frag} {mg : Str → Option Value} {base : Heap} (Y : Hd P K mg base) (cdv : Value) (A : Around) (outer : List PySem.Env) (s : Shared) (H : Hp) (E : XK) (a : Addr) (hr : DL.Room 0 (A.deeper (envOfC "_law_draw" (defScope s_q_draw) s.heap.objs.size a cdv))) :
    DB (cxOf (L2.CX P w) P w K mg base ["_law_pool_here", "_law_many", "_law_found"] "_law_draw" (defScope s_q_draw) a cdv A outer s H E) (fun c d _ H => E c d H) (defBody s_q_draw) c_q_draw :=
  (db_cons (ds_if (dt_cmp opd_gt (de_ix (de_var 0) de_int) de_int (nomark _)) (db_cons (ds_set 2 sc_q_draw.nd (de_op opd_modI (de_ix (de_var 0) de_int) (de_var 1)))
    (db_cons (ds_asg (de_op opd_divI (de_ix (de_var 0) de_int) (de_var 1)) (dg_sub (W := W0) (de_var 0) de_int) gSub_ok)
    (db_one (ds_ret (de_var 2)))))
    db_nil)
    (db_cons (ds_asg (de_op opd_modI (de_op opd_add (de_op opd_mul (de_ix (de_var 0) de_int) de_int) de_int) de_int) (dg_sub (W := W0) (de_var 0) de_int) gSub_ok)
    (db_one (ds_ret (de_op opd_modI (de_op opd_divI (de_op opd_modI (de_op opd_mul (de_ix (de_var 0) de_int) (de_ix (de_var 0) de_int)) de_int) de_int) (de_var 1))))))
theorem Hd.ok_q_draw {P : Program} {w : World} {K : PySem.W.Frag} {mg : Str → Option Value} {base : Heap} (Y : Hd P K mg base) : CalD P w K mg base 1 "_law_draw" 2 F_q_draw :=
  by obtain ⟨fd_q_draw, D_q_draw⟩ := Y.says.def_ 1 (d := d_q_draw) rfl; exact ⟨Y.glo__law_draw, D_q_draw.kp, fd_q_draw, ["_law_pool_here", "_law_many"], rfl, fn_ok D_q_draw sc_q_draw fun cdv A outer s H E hr => Y.b_q_draw cdv A outer s H E _ hr, D_q_draw.bindsN fun _ _ _ _ _ _ us hl => match us, hl with | [_, _], _ => rfl⟩
theorem sc_bags_is_integer : FnScope ["value"] ["value"] (defScope s_bags_is_integer) := ⟨rfl, rfl, rfl, by decide +kernel, rfl, by decide +kernel, by decide +kernel⟩
theorem Hd.b_bags_is_integer {P : Program} {w : World} {K : PySem.W.Frag} {mg : Str → Option Value} {base : Heap} (Y : Hd P K mg base) (cdv : Value) (A : Around) (outer : List PySem.Env) (s : Shared) (H : Hp) (E : XK) (a : Addr) (hr : DL.Room 0 (A.deeper (envOfC "is_integer" (defScope s_bags_is_integer) s.heap.objs.size a cdv))) :
    DB (cxOf (L2.CX P w) P w K mg base ["value"] "is_integer" (defScope s_bags_is_integer) a cdv A outer s H E) (fun c d _ H => E c d H) (defBody s_bags_is_integer) c_bags_is_integer :=
  (db_one (ds_ret (de_and (by exact (de_callB cd_isTy rfl (Y.free_isinstance) rfl (da_cons (de_var 0) (da_cons (by exact (de_ty rfl (Y.free_int) rfl)) da_nil)))) (de_one (de_not (by exact (de_callB cd_isTy rfl (Y.free_isinstance) rfl (da_cons (de_var 0) (da_cons (by exact (de_ty rfl (Y.free_bool) rfl)) da_nil)))))))))
theorem Hd.ok_bags_is_integer {P : Program} {w : World} {K : PySem.W.Frag} {mg : Str → Option Value} {base : Heap} (Y : Hd P K mg base) : CalD P w K mg base 1 "is_integer" 1 F_bags_is_integer :=
  by obtain ⟨fd_bags_is_integer, D_bags_is_integer⟩ := Y.says.def_ 2 (d := d_bags_is_integer) rfl; exact ⟨Y.glo_is_integer, D_bags_is_integer.kp, fd_bags_is_integer, ["value"], rfl, fn_ok D_bags_is_integer sc_bags_is_integer fun cdv A outer s H E hr => Y.b_bags_is_integer cdv A outer s H E _ hr, D_bags_is_integer.bindsN fun _ _ _ _ _ _ us hl => match us, hl with | [_], _ => rfl⟩
theorem sc_bags_is_bag : FnScope ["value", "numbers", "entry", "number", "count"] ["value"] (defScope s_bags_is_bag) := ⟨rfl, rfl, rfl, by decide +kernel, rfl, by decide +kernel, by decide +kernel⟩
theorem Hd.b_bags_is_bag {P : Program} {w : World} {K : PySem.W.Frag} {mg : Str → Option Value} {base : Heap} (Y : Hd P K mg base) (cdv : Value) (A : Around) (outer : List PySem.Env) (s : Shared) (H : Hp) (E : XK) (a : Addr) (hr : DL.Room 1 (A.deeper (envOfC "is_bag" (defScope s_bags_is_bag) s.heap.objs.size a cdv))) :
    DB (cxOf (L2.CX P w) P w K mg base ["value", "numbers", "entry", "number", "count"] "is_bag" (defScope s_bags_is_bag) a cdv A outer s H E) (fun c d _ H => E c d H) (defBody s_bags_is_bag) c_bags_is_bag :=
  (db_cons (ds_if (dt_not (dt_val (by exact (de_callB cd_isTy rfl (Y.free_isinstance) rfl (da_cons (de_var 0) (da_cons (by exact (de_ty rfl (Y.free_tuple) rfl)) da_nil)))))) (db_one (ds_ret de_bl))
    db_nil)
    (db_cons (ds_set 1 sc_bags_is_bag.nd (de_new da_nil))
    (db_cons (ds_for [0, 2, 3, 4] (passes_of rfl) rfl (di_any (de_var 0)) (dg_name 2 sc_bags_is_bag.nd) (db_cons (ds_if (dw_or (dt_not (dt_val (by exact (de_callB cd_isTy rfl (Y.free_isinstance) rfl (da_cons (de_var 2) (da_cons (by exact (de_ty rfl (Y.free_tuple) rfl)) da_nil)))))) (dw_or1 (dt_cmp (opd_ne hr.units) (by exact (de_callB cd_len rfl (Y.free_len) rfl (da_cons (de_var 2) da_nil))) de_int (nomark _)))).pt (db_one (ds_ret de_bl))
    db_nil)
    (db_cons (ds_asg (de_var 2) (dg_tup rfl (dgs_cons (dg_name 3 sc_bags_is_bag.nd) (dgs_cons (dg_name 4 sc_bags_is_bag.nd) dgs_nil)) 2) (gT_ok (gsCons_ok (gN_ok 3) (gsCons_ok (gN_ok 4) gsNil_ok))))
    (db_cons (ds_if (dw_or (dt_not (dt_val (by exact (de_cal (Y.ok_bags_is_integer (P := P) (w := w)) hr (by decide) rfl (takes_of rfl rfl rfl rfl) (da_cons (de_var 3) da_nil))))) (dw_or (dt_not (dt_val (by exact (de_cal (Y.ok_bags_is_integer (P := P) (w := w)) hr (by decide) rfl (takes_of rfl rfl rfl rfl) (da_cons (de_var 4) da_nil))))) (dw_or1 (dt_cmp opd_lt (de_var 4) de_int (nomark _))))).pt (db_one (ds_ret de_bl))
    db_nil)
    (db_cons (ds_if (dw_and (dt_cmp (opd_ne hr.units) (de_var 1) (de_lst da_nil) (nomark _)) (dw_and1 (dt_cmp opd_le (de_var 3) (de_ix (de_var 1) (de_neg de_int)) (nomark _)))).pt (db_one (ds_ret de_bl))
    db_nil)
    (db_one (ds_expr (by exact (de_append (de_var 1) (de_var 3))))))))))
    (db_one (ds_ret de_bl)))))
theorem Hd.ok_bags_is_bag {P : Program} {w : World} {K : PySem.W.Frag} {mg : Str → Option Value} {base : Heap} (Y : Hd P K mg base) : CalD P w K mg base 2 "is_bag" 1 F_bags_is_bag :=
  by obtain ⟨fd_bags_is_bag, D_bags_is_bag⟩ := Y.says.def_ 3 (d := d_bags_is_bag) rfl; exact ⟨Y.glo_is_bag, D_bags_is_bag.kp, fd_bags_is_bag, ["value"], rfl, fn_ok D_bags_is_bag sc_bags_is_bag fun cdv A outer s H E hr => Y.b_bags_is_bag cdv A outer s H E _ hr, D_bags_is_bag.bindsN fun _ _ _ _ _ _ us hl => match us, hl with | [_], _ => rfl⟩
theorem sc_bags_check_bag : FnScope ["value"] ["value"] (defScope s_bags_check_bag) := ⟨rfl, rfl, rfl, by decide +kernel, rfl, by decide +kernel, by decide +kernel⟩
theorem Hd.b_bags_check_bag {P : Program} {w : World} {K : PySem.W.Frag} {mg : Str → Option Value} {base : Heap} (Y : Hd P K mg base) (cdv : Value) (A : Around) (outer : List PySem.Env) (s : Shared) (H : Hp) (E : XK) (a : Addr) (hr : DL.Room 2 (A.deeper (envOfC "check_bag" (defScope s_bags_check_bag) s.heap.objs.size a cdv))) :
    DB (cxOf (L2.CX P w) P w K mg base ["value"] "check_bag" (defScope s_bags_check_bag) a cdv A outer s H E) (fun c d _ H => E c d H) (defBody s_bags_check_bag) c_bags_check_bag :=
  (db_one (ds_if (dt_not (dt_val (by exact (de_cal (Y.ok_bags_is_bag (P := P) (w := w)) hr (by decide) rfl (takes_of rfl rfl rfl rfl) (da_cons (de_var 0) da_nil))))) (db_one (ds_raise Y.exc_InvalidBag DX.okVE Y.pf (Y.free_super) Y.glo_InvalidBag rfl hr (takes_of rfl rfl rfl rfl) (de_var 0)))
    db_nil))
theorem Hd.ok_bags_check_bag {P : Program} {w : World} {K : PySem.W.Frag} {mg : Str → Option Value} {base : Heap} (Y : Hd P K mg base) : CalD P w K mg base 3 "check_bag" 1 F_bags_check_bag :=
  by obtain ⟨fd_bags_check_bag, D_bags_check_bag⟩ := Y.says.def_ 4 (d := d_bags_check_bag) rfl; exact ⟨Y.glo_check_bag, D_bags_check_bag.kp, fd_bags_check_bag, ["value"], rfl, fn_ok D_bags_check_bag sc_bags_check_bag fun cdv A outer s H E hr => Y.b_bags_check_bag cdv A outer s H E _ hr, D_bags_check_bag.bindsN fun _ _ _ _ _ _ us hl => match us, hl with | [_], _ => rfl⟩
theorem sc_bags_is_count : FnScope ["value"] ["value"] (defScope s_bags_is_count) := ⟨rfl, rfl, rfl, by decide +kernel, rfl, by decide +kernel, by decide +kernel⟩
theorem Hd.b_bags_is_count {P : Program} {w : World} {K : PySem.W.Frag} {mg : Str → Option Value} {base : Heap} (Y : Hd P K mg base) (cdv : Value) (A : Around) (outer : List PySem.Env) (s : Shared) (H : Hp) (E : XK) (a : Addr) (hr : DL.Room 1 (A.deeper (envOfC "is_count" (defScope s_bags_is_count) s.heap.objs.size a cdv))) :
    DB (cxOf (L2.CX P w) P w K mg base ["value"] "is_count" (defScope s_bags_is_count) a cdv A outer s H E) (fun c d _ H => E c d H) (defBody s_bags_is_count) c_bags_is_count :=
  (db_one (ds_ret (de_and (by exact (de_cal (Y.ok_bags_is_integer (P := P) (w := w)) hr (by decide) rfl (takes_of rfl rfl rfl rfl) (da_cons (de_var 0) da_nil))) (de_one (de_cmp opd_ge (de_var 0) de_int (nomark _))))))
theorem Hd.ok_bags_is_count {P : Program} {w : World} {K : PySem.W.Frag} {mg : Str → Option Value} {base : Heap} (Y : Hd P K mg base) : CalD P w K mg base 2 "is_count" 1 F_bags_is_count :=
  by obtain ⟨fd_bags_is_count, D_bags_is_count⟩ := Y.says.def_ 5 (d := d_bags_is_count) rfl; exact ⟨Y.glo_is_count, D_bags_is_count.kp, fd_bags_is_count, ["value"], rfl, fn_ok D_bags_is_count sc_bags_is_count fun cdv A outer s H E hr => Y.b_bags_is_count cdv A outer s H E _ hr, D_bags_is_count.bindsN fun _ _ _ _ _ _ us hl => match us, hl with | [_], _ => rfl⟩
theorem sc_bags_check_count : FnScope ["value"] ["value"] (defScope s_bags_check_count) := ⟨rfl, rfl, rfl, by decide +kernel, rfl, by decide +kernel, by decide +kernel⟩
theorem Hd.b_bags_check_count {P : Program} {w : World} {K : PySem.W.Frag} {mg : Str → Option Value} {base : Heap} (Y : Hd P K mg base) (cdv : Value) (A : Around) (outer : List PySem.Env) (s : Shared) (H : Hp) (E : XK) (a : Addr) (hr : DL.Room 2 (A.deeper (envOfC "check_count" (defScope s_bags_check_count) s.heap.objs.size a cdv))) :
    DB (cxOf (L2.CX P w) P w K mg base ["value"] "check_count" (defScope s_bags_check_count) a cdv A outer s H E) (fun c d _ H => E c d H) (defBody s_bags_check_count) c_bags_check_count :=
  (db_one (ds_if (dt_not (dt_val (by exact (de_cal (Y.ok_bags_is_count (P := P) (w := w)) hr (by decide) rfl (takes_of rfl rfl rfl rfl) (da_cons (de_var 0) da_nil))))) (db_one (ds_raise Y.exc_InvalidCount DX.okVE Y.pf (Y.free_super) Y.glo_InvalidCount rfl hr (takes_of rfl rfl rfl rfl) (de_var 0)))
    db_nil))
theorem Hd.ok_bags_check_count {P : Program} {w : World} {K : PySem.W.Frag} {mg : Str → Option Value} {base : Heap} (Y : Hd P K mg base) : CalD P w K mg base 3 "check_count" 1 F_bags_check_count :=
  by obtain ⟨fd_bags_check_count, D_bags_check_count⟩ := Y.says.def_ 6 (d := d_bags_check_count) rfl; exact ⟨Y.glo_check_count, D_bags_check_count.kp, fd_bags_check_count, ["value"], rfl, fn_ok D_bags_check_count sc_bags_check_count fun cdv A outer s H E hr => Y.b_bags_check_count cdv A outer s H E _ hr, D_bags_check_count.bindsN fun _ _ _ _ _ _ us hl => match us, hl with | [_], _ => rfl⟩
theorem sc_bags_from_counts : FnScope ["counts", "number", "count"] ["counts"] (defScope s_bags_from_counts) := ⟨rfl, rfl, rfl, by decide +kernel, rfl, by decide +kernel, by decide +kernel⟩
theorem Hd.b_bags_from_counts {P : Program} {w : World} {K : PySem.W.Frag} {mg : Str → Option Value} {base : Heap} (Y : Hd P K mg base) (cdv : Value) (A : Around) (outer : List PySem.Env) (s : Shared) (H : Hp) (E : XK) (a : Addr) (hr : DL.Room 0 (A.deeper (envOfC "from_counts" (defScope s_bags_from_counts) s.heap.objs.size a cdv))) :
    DB (cxOf (L2.CX P w) P w K mg base ["counts", "number", "count"] "from_counts" (defScope s_bags_from_counts) a cdv A outer s H E) (fun c d _ H => E c d H) (defBody s_bags_from_counts) c_bags_from_counts :=
  (db_one (ds_ret (by exact (de_callTy cd_tuple rfl (Y.free_tuple) rfl (da_cons (by exact (de_callB cd_sorted rfl (Y.free_sorted) rfl (da_cons (de_lcItems [("number", 1), ("count", 2)] 0 rfl sc_bags_from_counts.nd (blkOk_by (N := ["counts", "number", "count"]) (sc := defScope s_bags_from_counts) (by decide +kernel)) (fun _ _ _ _ _ => (dgv_tup rfl (dgsv_cons (dgv_name 1 sc_bags_from_counts.nd) (dgsv_cons (dgv_name 2 sc_bags_from_counts.nd) dgsv_nil)) 2)) (fun _ _ _ _ _ => (dts_one (dt_cmp opd_gt (de_var 2) de_int (nomark _)))) (fun _ _ _ _ _ => (de_tup (da_cons (de_var 1) (da_cons (de_var 2) da_nil))))) da_nil))) da_nil)))))
theorem Hd.ok_bags_from_counts {P : Program} {w : World} {K : PySem.W.Frag} {mg : Str → Option Value} {base : Heap} (Y : Hd P K mg base) : CalD P w K mg base 1 "from_counts" 1 F_bags_from_counts :=
  by obtain ⟨fd_bags_from_counts, D_bags_from_counts⟩ := Y.says.def_ 7 (d := d_bags_from_counts) rfl; exact ⟨Y.glo_from_counts, D_bags_from_counts.kp, fd_bags_from_counts, ["counts"], rfl, fn_ok D_bags_from_counts sc_bags_from_counts fun cdv A outer s H E hr => Y.b_bags_from_counts cdv A outer s H E _ hr, D_bags_from_counts.bindsN fun _ _ _ _ _ _ us hl => match us, hl with | [_], _ => rfl⟩
theorem sc_bags_subtract : FnScope ["bag", "other", "counts", "number", "count"] ["bag", "other"] (defScope s_bags_subtract) := ⟨rfl, rfl, rfl, by decide +kernel, rfl, by decide +kernel, by decide +kernel⟩
theorem Hd.b_bags_subtract {P : Program} {w : World} {K : PySem.W.Frag} {mg : Str → Option Value} {base : Heap} (Y : Hd P K mg base) (cdv : Value) (A : Around) (outer : List PySem.Env) (s : Shared) (H : Hp) (E : XK) (a : Addr) (hr : DL.Room 1 (A.deeper (envOfC "subtract" (defScope s_bags_subtract) s.heap.objs.size a cdv))) :
    DB (cxOf (L2.CX P w) P w K mg base ["bag", "other", "counts", "number", "count"] "subtract" (defScope s_bags_subtract) a cdv A outer s H E) (fun c d _ H => E c d H) (defBody s_bags_subtract) c_bags_subtract :=
  (db_cons (ds_set 2 sc_bags_subtract.nd (by exact (de_callTy (cd_dict rfl) rfl (Y.free_dict) rfl (da_cons (de_var 0) da_nil))))
    (db_cons (ds_for [0, 1, 3, 4] (passes_of rfl) rfl (di_any (de_var 1)) (dg_tup rfl (dgs_cons (dg_name 3 sc_bags_subtract.nd) (dgs_cons (dg_name 4 sc_bags_subtract.nd) dgs_nil)) 2) (db_one (ds_dput hr.units1 (de_var 2) (de_var 3) (de_op opd_subI (by exact (de_dget2 hr.units1 (de_var 2) (de_var 3) de_int ⟨rfl, rfl, rfl, rfl⟩)) (de_var 4)))))
    (db_one (ds_ret (de_if (dt_val (by exact (de_callB (cd_any rfl) rfl (Y.free_any) rfl (da_cons (de_lcVals [("count", 4)] 2 rfl sc_bags_subtract.nd (blkOk_by (N := ["bag", "other", "counts", "number", "count"]) (sc := defScope s_bags_subtract) (by decide +kernel)) (fun _ _ _ _ _ => (dgv_name 4 sc_bags_subtract.nd)) (fun _ _ _ _ _ => dts_nil) (fun _ _ _ _ _ => (de_cmp opd_lt (de_var 4) de_int (nomark _)))) da_nil)))) de_non (by exact (de_cal (Y.ok_bags_from_counts (P := P) (w := w)) hr (by decide) rfl (takes_of rfl rfl rfl rfl) (da_cons (de_var 2) da_nil))))))))
theorem Hd.ok_bags_subtract {P : Program} {w : World} {K : PySem.W.Frag} {mg : Str → Option Value} {base : Heap} (Y : Hd P K mg base) : CalD P w K mg base 2 "subtract" 2 F_bags_subtract :=
  by obtain ⟨fd_bags_subtract, D_bags_subtract⟩ := Y.says.def_ 8 (d := d_bags_subtract) rfl; exact ⟨Y.glo_subtract, D_bags_subtract.kp, fd_bags_subtract, ["bag", "other"], rfl, fn_ok D_bags_subtract sc_bags_subtract fun cdv A outer s H E hr => Y.b_bags_subtract cdv A outer s H E _ hr, D_bags_subtract.bindsN fun _ _ _ _ _ _ us hl => match us, hl with | [_, _], _ => rfl⟩
theorem sc_bags_total : FnScope ["bag", "number", "count"] ["bag"] (defScope s_bags_total) := ⟨rfl, rfl, rfl, by decide +kernel, rfl, by decide +kernel, by decide +kernel⟩
theorem Hd.b_bags_total {P : Program} {w : World} {K : PySem.W.Frag} {mg : Str → Option Value} {base : Heap} (Y : Hd P K mg base) (cdv : Value) (A : Around) (outer : List PySem.Env) (s : Shared) (H : Hp) (E : XK) (a : Addr) (hr : DL.Room 0 (A.deeper (envOfC "total" (defScope s_bags_total) s.heap.objs.size a cdv))) :
    DB (cxOf (L2.CX P w) P w K mg base ["bag", "number", "count"] "total" (defScope s_bags_total) a cdv A outer s H E) (fun c d _ H => E c d H) (defBody s_bags_total) c_bags_total :=
  (db_one (ds_ret (by exact (de_callB (cd_sum rfl) rfl (Y.free_sum) rfl (da_cons (de_lc [("number", 1), ("count", 2)] rfl sc_bags_total.nd (di_any (de_var 0)) (blkOk_by (N := ["bag", "number", "count"]) (sc := defScope s_bags_total) (by decide +kernel)) (fun _ _ _ _ _ => (dgv_tup rfl (dgsv_cons (dgv_name 1 sc_bags_total.nd) (dgsv_cons (dgv_name 2 sc_bags_total.nd) dgsv_nil)) 2)) (fun _ _ _ _ _ => dts_nil) (fun _ _ _ _ _ => (de_var 2))) da_nil)))))
theorem Hd.ok_bags_total {P : Program} {w : World} {K : PySem.W.Frag} {mg : Str → Option Value} {base : Heap} (Y : Hd P K mg base) : CalD P w K mg base 1 "total" 1 F_bags_total :=
  by obtain ⟨fd_bags_total, D_bags_total⟩ := Y.says.def_ 9 (d := d_bags_total) rfl; exact ⟨Y.glo_total, D_bags_total.kp, fd_bags_total, ["bag"], rfl, fn_ok D_bags_total sc_bags_total fun cdv A outer s H E hr => Y.b_bags_total cdv A outer s H E _ hr, D_bags_total.bindsN fun _ _ _ _ _ _ us hl => match us, hl with | [_], _ => rfl⟩
theorem sc_effects_find_fault : FnScope ["inserted", "removals", "survivors", "consumed"] ["inserted", "removals", "survivors"] (defScope s_effects_find_fault) := ⟨rfl, rfl, rfl, by decide +kernel, rfl, by decide +kernel, by decide +kernel⟩
theorem Hd.b_effects_find_fault {P : Program} {w : World} {K : PySem.W.Frag} {mg : Str → Option Value} {base : Heap} (Y : Hd P K mg base) (cdv : Value) (A : Around) (outer : List PySem.Env) (s : Shared) (H : Hp) (E : XK) (a : Addr) (hr : DL.Room 2 (A.deeper (envOfC "find_fault" (defScope s_effects_find_fault) s.heap.objs.size a cdv))) :
    DB (cxOf (L2.CX P w) P w K mg base ["inserted", "removals", "survivors", "consumed"] "find_fault" (defScope s_effects_find_fault) a cdv A outer s H E) (fun c d _ H => E c d H) (defBody s_effects_find_fault) c_effects_find_fault :=
  (db_cons (ds_set 3 sc_effects_find_fault.nd (by exact (de_cal (Y.ok_bags_subtract (P := P) (w := w)) hr (by decide) rfl (takes_of rfl rfl rfl rfl) (da_cons (de_var 0) (da_cons (de_var 2) da_nil)))))
    (db_cons (ds_if (dt_cmp opd_is (de_var 3) de_non (nomark _)) (db_one (ds_ret de_str))
    db_nil)
    (db_one (ds_ret (de_if (dt_cmp opd_gt (by exact (de_cal (Y.ok_bags_total (P := P) (w := w)) hr (by decide) rfl (takes_of rfl rfl rfl rfl) (da_cons (de_var 3) da_nil))) (de_var 1) (nomark _)) de_str de_non)))))
theorem Hd.ok_effects_find_fault {P : Program} {w : World} {K : PySem.W.Frag} {mg : Str → Option Value} {base : Heap} (Y : Hd P K mg base) : CalD P w K mg base 3 "find_fault" 3 F_effects_find_fault :=
  by obtain ⟨fd_effects_find_fault, D_effects_find_fault⟩ := Y.says.def_ 10 (d := d_effects_find_fault) rfl; exact ⟨Y.glo_find_fault, D_effects_find_fault.kp, fd_effects_find_fault, ["inserted", "removals", "survivors"], rfl, fn_ok D_effects_find_fault sc_effects_find_fault fun cdv A outer s H E hr => Y.b_effects_find_fault cdv A outer s H E _ hr, D_effects_find_fault.bindsN fun _ _ _ _ _ _ us hl => match us, hl with | [_, _, _], _ => rfl⟩
theorem sc_Effect_init : FnScope ["self", "inserted", "removals", "survivors", "fault"] ["self", "inserted", "removals", "survivors"] (defScope s_Effect_init) := ⟨rfl, rfl, rfl, by decide +kernel, rfl, by decide +kernel, by decide +kernel⟩
theorem Hd.b_Effect_init {P : Program} {w : World} {K : PySem.W.Frag} {mg : Str → Option Value} {base : Heap} (Y : Hd P K mg base) (cdv : Value) (A : Around) (outer : List PySem.Env) (s : Shared) (H : Hp) (E : XK) (a : Addr) (hr : DL.Room 3 (A.deeper (envOfC "Effect.__init__" (defScope s_Effect_init) s.heap.objs.size a cdv))) :
    DB (cxOf (L2.CX P w) P w K mg base ["self", "inserted", "removals", "survivors", "fault"] "Effect.__init__" (defScope s_Effect_init) a cdv A outer s H E) (fun c d _ H => E c d H) (defBody s_Effect_init) c_Effect_init :=
  (db_cons (ds_expr (by exact (de_cal (Y.ok_bags_check_bag (P := P) (w := w)) hr (by decide) rfl (takes_of rfl rfl rfl rfl) (da_cons (de_var 1) da_nil))))
    (db_cons (ds_expr (by exact (de_cal (Y.ok_bags_check_count (P := P) (w := w)) hr (by decide) rfl (takes_of rfl rfl rfl rfl) (da_cons (de_var 2) da_nil))))
    (db_cons (ds_expr (by exact (de_cal (Y.ok_bags_check_bag (P := P) (w := w)) hr (by decide) rfl (takes_of rfl rfl rfl rfl) (da_cons (de_var 3) da_nil))))
    (db_cons (ds_set 4 sc_Effect_init.nd (by exact (de_cal (Y.ok_effects_find_fault (P := P) (w := w)) hr (by decide) rfl (takes_of rfl rfl rfl rfl) (da_cons (de_var 1) (da_cons (de_var 2) (da_cons (de_var 3) da_nil))))))
    (db_cons (ds_if (dt_cmp opd_isnot (de_var 4) de_non (nomark _)) (db_one (ds_raise Y.exc_InvalidEffect DX.okVE Y.pf (Y.free_super) Y.glo_InvalidEffect rfl hr (takes_of rfl rfl rfl rfl) (de_var 4)))
    db_nil)
    (db_one (ds_fld Y.cls_Effect Y.noat_Effect_own_parts (de_var 0) (de_tup (da_cons (de_var 1) (da_cons (de_var 2) (da_cons (de_var 3) da_nil)))))))))))
theorem Hd.mk_Effect_init {P : Program} {w : World} {K : PySem.W.Frag} {mg : Str → Option Value} {base : Heap} (Y : Hd P K mg base) : MakD P w K mg base 4 "Effect" 3 F_Effect_init :=
  by obtain ⟨fd_Effect_init, D_Effect_init⟩ := Y.says.def_ 11 (d := d_Effect_init) rfl; exact ⟨Y.glo_Effect, _, fd_Effect_init, ["self", "inserted", "removals", "survivors"], rfl, tMk_ok (Y.says.fact 36 (f := (tMk "Effect")) rfl), fn_ok D_Effect_init sc_Effect_init fun cdv A outer s H E hr => Y.b_Effect_init cdv A outer s H E _ hr, D_Effect_init.bindsN fun _ _ _ _ _ _ us hl => match us, hl with | [_, _, _, _], _ => rfl⟩
theorem sc_q_great_effect : FnScope ["_law_pool_here", "_law_inserted", "_law_survivors", "_law_consumed", "_law_number", "_law_many", "_law_some", "_law_more", "_law_entry"] ["_law_pool_here"] (defScope s_q_great_effect) := ⟨rfl, rfl, rfl, by decide +kernel, rfl, by decide +kernel, by decide +kernel⟩
theorem Hd.b_q_great_effect {P : Program} {w : World} {K : PySem.W.Frag} {mg : Str → Option Value} {base : Heap} (Y : Hd P K mg base) (cdv : Value) (A : Around) (outer : List PySem.Env) (s : Shared) (H : Hp) (E : XK) (a : Addr) (hr : DL.Room 5 (A.deeper (envOfC "_law_great_effect" (defScope s_q_great_effect) s.heap.objs.size a cdv))) :
    DB (cxOf (L2.CX P w) P w K mg base ["_law_pool_here", "_law_inserted", "_law_survivors", "_law_consumed", "_law_number", "_law_many", "_law_some", "_law_more", "_law_entry"] "_law_great_effect" (defScope s_q_great_effect) a cdv A outer s H E) (fun c d _ H => E c d H) (defBody s_q_great_effect) c_q_great_effect :=
  (db_cons (ds_par3 1 2 3 rfl sc_q_great_effect.nd (da_cons (de_new da_nil) (da_cons (de_new da_nil) (da_cons de_int da_nil))) rfl)
    (db_cons (ds_for [4, 5, 6, 7] (passes_of rfl) rfl (di_range2 rfl (Y.free_range) (de_neg de_int) de_int) (dg_name 4 sc_q_great_effect.nd) (db_cons (ds_set 5 sc_q_great_effect.nd (de_ix (de_lst (da_cons de_int (da_cons (by exact (de_cal (Y.ok_q_draw (P := P) (w := w)) hr (by decide) rfl (takes_of rfl rfl rfl rfl) (da_cons (de_var 0) (da_cons de_int da_nil)))) (da_cons (by exact (de_cal (Y.ok_q_draw (P := P) (w := w)) hr (by decide) rfl (takes_of rfl rfl rfl rfl) (da_cons (de_var 0) (da_cons (de_op opd_powI de_int de_int) da_nil)))) da_nil)))) (by exact (de_cal (Y.ok_q_draw (P := P) (w := w)) hr (by decide) rfl (takes_of rfl rfl rfl rfl) (da_cons (de_var 0) (da_cons de_int da_nil))))))
    (db_cons (ds_set 6 sc_q_great_effect.nd (de_ix (de_lst (da_cons de_int (da_cons (de_var 5) (da_cons (by exact (de_cal (Y.ok_q_draw (P := P) (w := w)) hr (by decide) rfl (takes_of rfl rfl rfl rfl) (da_cons (de_var 0) (da_cons (de_op opd_add (de_var 5) de_int) da_nil)))) da_nil)))) (by exact (de_cal (Y.ok_q_draw (P := P) (w := w)) hr (by decide) rfl (takes_of rfl rfl rfl rfl) (da_cons (de_var 0) (da_cons de_int da_nil))))))
    (db_cons (ds_expr (by exact (de_append (de_var 1) (de_tup (da_cons (de_var 4) (da_cons (de_var 5) da_nil))))))
    (db_cons (ds_expr (by exact (de_append (de_var 2) (de_tup (da_cons (de_var 4) (da_cons (de_var 6) da_nil))))))
    (db_one (ds_set 3 sc_q_great_effect.nd (de_op opd_subI (de_op opd_add (de_var 3) (de_var 5)) (de_var 6)))))))))
    (db_cons (ds_set 1 sc_q_great_effect.nd (by exact (de_callTy cd_tuple rfl (Y.free_tuple) rfl (da_cons (de_lc [("_law_entry", 8)] rfl sc_q_great_effect.nd (di_any (de_var 1)) (blkOk_by (N := ["_law_pool_here", "_law_inserted", "_law_survivors", "_law_consumed", "_law_number", "_law_many", "_law_some", "_law_more", "_law_entry"]) (sc := defScope s_q_great_effect) (by decide +kernel)) (fun _ _ _ _ _ => (dgv_name 8 sc_q_great_effect.nd)) (fun _ _ _ _ _ => (dts_one (dt_cmp opd_gt (de_ix (de_var 8) de_int) de_int (nomark _)))) (fun _ _ _ _ _ => (de_var 8))) da_nil))))
    (db_cons (ds_set 2 sc_q_great_effect.nd (by exact (de_callTy cd_tuple rfl (Y.free_tuple) rfl (da_cons (de_lc [("_law_entry", 8)] rfl sc_q_great_effect.nd (di_any (de_var 2)) (blkOk_by (N := ["_law_pool_here", "_law_inserted", "_law_survivors", "_law_consumed", "_law_number", "_law_many", "_law_some", "_law_more", "_law_entry"]) (sc := defScope s_q_great_effect) (by decide +kernel)) (fun _ _ _ _ _ => (dgv_name 8 sc_q_great_effect.nd)) (fun _ _ _ _ _ => (dts_one (dt_cmp opd_gt (de_ix (de_var 8) de_int) de_int (nomark _)))) (fun _ _ _ _ _ => (de_var 8))) da_nil))))
    (db_cons (ds_set 7 sc_q_great_effect.nd (de_ix (de_lst (da_cons de_int (da_cons (by exact (de_cal (Y.ok_q_draw (P := P) (w := w)) hr (by decide) rfl (takes_of rfl rfl rfl rfl) (da_cons (de_var 0) (da_cons de_int da_nil)))) (da_cons (by exact (de_cal (Y.ok_q_draw (P := P) (w := w)) hr (by decide) rfl (takes_of rfl rfl rfl rfl) (da_cons (de_var 0) (da_cons (de_op opd_powI de_int de_int) da_nil)))) da_nil)))) (by exact (de_cal (Y.ok_q_draw (P := P) (w := w)) hr (by decide) rfl (takes_of rfl rfl rfl rfl) (da_cons (de_var 0) (da_cons de_int da_nil))))))
    (db_one (ds_ret (by exact (de_mak (Y.mk_Effect_init (P := P) (w := w)) hr (by decide) rfl (takes_of rfl rfl rfl rfl) (da_cons (de_var 1) (da_cons (de_op opd_add (de_var 3) (de_var 7)) (da_cons (de_var 2) da_nil))))))))))))
theorem Hd.ok_q_great_effect {P : Program} {w : World} {K : PySem.W.Frag} {mg : Str → Option Value} {base : Heap} (Y : Hd P K mg base) : CalD P w K mg base 6 "_law_great_effect" 1 F_q_great_effect :=
  by obtain ⟨fd_q_great_effect, D_q_great_effect⟩ := Y.says.def_ 12 (d := d_q_great_effect) rfl; exact ⟨Y.glo__law_great_effect, D_q_great_effect.kp, fd_q_great_effect, ["_law_pool_here"], rfl, fn_ok D_q_great_effect sc_q_great_effect fun cdv A outer s H E hr => Y.b_q_great_effect cdv A outer s H E _ hr, D_q_great_effect.bindsN fun _ _ _ _ _ _ us hl => match us, hl with | [_], _ => rfl⟩
theorem sc_programs_is_step : FnScope ["step", "depth", "word", "number", "count", "inner"] ["step", "depth"] (defScope s_programs_is_step) := ⟨rfl, rfl, rfl, by decide +kernel, rfl, by decide +kernel, by decide +kernel⟩
theorem Hd.b_programs_is_step {P : Program} {w : World} {K : PySem.W.Frag} {mg : Str → Option Value} {base : Heap} (Y : Hd P K mg base) (cdv : Value) (A : Around) (outer : List PySem.Env) (s : Shared) (H : Hp) (E : XK) (a : Addr) (hr : DL.Room 2 (A.deeper (envOfC "is_step" (defScope s_programs_is_step) s.heap.objs.size a cdv))) :
    DB (cxOf (L2.CX P w) P w K mg base ["step", "depth", "word", "number", "count", "inner"] "is_step" (defScope s_programs_is_step) a cdv A outer s H E) (fun c d _ H => E c d H) (defBody s_programs_is_step) c_programs_is_step :=
  (db_one (ds_match (de_var 0) (dm_seqIf rfl sc_programs_is_step.nd (.cons 2 rfl (.inl rfl) (.inr rfl) (.cons 3 rfl (.inl rfl) (.inr rfl) (.cons 4 rfl (.inl rfl) (.inr rfl) .nil))) (by decide) (dt_cmp (opd_eq hr.units) (de_var 2) de_str (nomark _)) (db_one (ds_ret (de_and (by exact (de_callB cd_isTy rfl (Y.free_isinstance) rfl (da_cons (de_var 0) (da_cons (by exact (de_ty rfl (Y.free_tuple) rfl)) da_nil)))) (de_and (by exact (de_cal (Y.ok_bags_is_integer (P := P) (w := w)) hr (by decide) rfl (takes_of rfl rfl rfl rfl) (da_cons (de_var 3) da_nil))) (de_one (by exact (de_cal (Y.ok_bags_is_count (P := P) (w := w)) hr (by decide) rfl (takes_of rfl rfl rfl rfl) (da_cons (de_var 4) da_nil)))))))) (dm_seqIf rfl sc_programs_is_step.nd (.cons 2 rfl (.inl rfl) (.inr rfl) (.cons 4 rfl (.inl rfl) (.inr rfl) .nil)) (by decide) (dt_cmp (opd_eq hr.units) (de_var 2) de_str (nomark _)) (db_one (ds_ret (de_and (by exact (de_callB cd_isTy rfl (Y.free_isinstance) rfl (da_cons (de_var 0) (da_cons (by exact (de_ty rfl (Y.free_tuple) rfl)) da_nil)))) (de_one (by exact (de_cal (Y.ok_bags_is_count (P := P) (w := w)) hr (by decide) rfl (takes_of rfl rfl rfl rfl) (da_cons (de_var 4) da_nil))))))) (dm_seqIf rfl sc_programs_is_step.nd (.cons 2 rfl (.inl rfl) (.inr rfl) (.cons 4 rfl (.inl rfl) (.inr rfl) (.cons 5 rfl (.inl rfl) (.inr rfl) .nil))) (by decide) (dt_cmp (opd_eq hr.units) (de_var 2) de_str (nomark _)) (db_one (ds_ret (de_and (by exact (de_callB cd_isTy rfl (Y.free_isinstance) rfl (da_cons (de_var 0) (da_cons (by exact (de_ty rfl (Y.free_tuple) rfl)) da_nil)))) (de_and (by exact (de_cal (Y.ok_bags_is_count (P := P) (w := w)) hr (by decide) rfl (takes_of rfl rfl rfl rfl) (da_cons (de_var 4) da_nil))) (de_and (by exact (de_callB cd_isTy rfl (Y.free_isinstance) rfl (da_cons (de_var 5) (da_cons (by exact (de_ty rfl (Y.free_tuple) rfl)) da_nil)))) (de_one (de_cmp opd_lt (de_var 1) (by exact (Y.de_cst_MAX_DEPTH rfl)) (nomark _)))))))) (dm_any (db_one (ds_ret de_bl))))))))
theorem Hd.ok_programs_is_step {P : Program} {w : World} {K : PySem.W.Frag} {mg : Str → Option Value} {base : Heap} (Y : Hd P K mg base) : CalD P w K mg base 3 "is_step" 2 F_programs_is_step :=
  by obtain ⟨fd_programs_is_step, D_programs_is_step⟩ := Y.says.def_ 13 (d := d_programs_is_step) rfl; exact ⟨Y.glo_is_step, D_programs_is_step.kp, fd_programs_is_step, ["step", "depth"], rfl, fn_ok D_programs_is_step sc_programs_is_step fun cdv A outer s H E hr => Y.b_programs_is_step cdv A outer s H E _ hr, D_programs_is_step.bindsN fun _ _ _ _ _ _ us hl => match us, hl with | [_, _], _ => rfl⟩
theorem sc_programs_find_invalid : FnScope ["program", "depth", "index", "step", "path"] ["program", "depth"] (defScope s_programs_find_invalid) := ⟨rfl, rfl, rfl, by decide +kernel, rfl, by decide +kernel, by decide +kernel⟩
theorem Hd.b_programs_find_invalid {P : Program} {w : World} {K : PySem.W.Frag} {mg : Str → Option Value} {base : Heap} (Y : Hd P K mg base) (R_programs_find_invalid : Fn) (kk jj : Nat) (hL : 3 ≤ jj) (hk : kk ≤ jj) (C_programs_find_invalid : CalD P w K mg base kk "find_invalid" 2 R_programs_find_invalid) (cdv : Value) (A : Around) (outer : List PySem.Env) (s : Shared) (H : Hp) (E : XK) (a : Addr) (hr : DL.Room jj (A.deeper (envOfC "find_invalid" (defScope s_programs_find_invalid) s.heap.objs.size a cdv))) :
    DB (cxOf (L2.CX P w) P w K mg base ["program", "depth", "index", "step", "path"] "find_invalid" (defScope s_programs_find_invalid) a cdv A outer s H E) (fun c d _ H => E c d H) (defBody s_programs_find_invalid) (c_programs_find_invalid R_programs_find_invalid) :=
  (db_cons (ds_for [0, 2, 3, 4] (passes_of rfl) rfl (di_enumA rfl (Y.free_enumerate) (de_var 0)) (dg_tup rfl (dgs_cons (dg_name 2 sc_programs_find_invalid.nd) (dgs_cons (dg_name 3 sc_programs_find_invalid.nd) dgs_nil)) 2) (db_cons (ds_if (dt_not (dt_val (by exact (de_cal (Y.ok_programs_is_step (P := P) (w := w)) hr (Nat.le_trans (by decide) hL) rfl (takes_of rfl rfl rfl rfl) (da_cons (de_var 3) (da_cons (de_var 1) da_nil)))))) (db_one (ds_ret (de_tup (da_cons (de_var 2) da_nil))))
    db_nil)
    (db_cons (ds_set 4 sc_programs_find_invalid.nd (de_if (dt_cmp (opd_eq hr.units) (de_ix (de_var 3) de_int) de_str (nomark _)) (by exact (de_cal C_programs_find_invalid hr hk rfl (takes_of rfl rfl rfl rfl) (da_cons (de_ix (de_var 3) de_int) (da_cons (de_op opd_add (de_var 1) de_int) da_nil)))) de_non))
    (db_one (ds_if (dt_cmp opd_isnot (de_var 4) de_non (nomark _)) (db_one (ds_ret (de_op opd_add (de_tup (da_cons (de_var 2) da_nil)) (de_var 4))))
    db_nil)))))
    (db_one (ds_ret de_non)))
theorem Hd.all_programs_find_invalid {P : Program} {w : World} {K : PySem.W.Frag} {mg : Str → Option Value} {base : Heap} (Y : Hd P K mg base) : ∀ n : Nat, CalD P w K mg base (4 + n) "find_invalid" 2 (F_programs_find_invalid n) :=
  by
  obtain ⟨fd_programs_find_invalid, D_programs_find_invalid⟩ := Y.says.def_ 14 (d := d_programs_find_invalid) rfl
  intro n
  induction n with
  | zero => exact ⟨Y.glo_find_invalid, D_programs_find_invalid.kp, fd_programs_find_invalid, ["program", "depth"], rfl, fn_st, D_programs_find_invalid.bindsN fun _ _ _ _ _ _ us hl => match us, hl with | [_, _], _ => rfl⟩
  | succ n h0 => exact ⟨Y.glo_find_invalid, D_programs_find_invalid.kp, fd_programs_find_invalid, ["program", "depth"], rfl, fn_ok D_programs_find_invalid sc_programs_find_invalid fun cdv A outer s H E hr => Y.b_programs_find_invalid (F_programs_find_invalid n) (4 + n) (4 + n) (by omega) (Nat.le_refl _) h0 cdv A outer s H E _ hr, D_programs_find_invalid.bindsN fun _ _ _ _ _ _ us hl => match us, hl with | [_, _], _ => rfl⟩
theorem Hd.ok_programs_find_invalid {P : Program} {w : World} {K : PySem.W.Frag} {mg : Str → Option Value} {base : Heap} (Y : Hd P K mg base) : CalD P w K mg base 20 "find_invalid" 2 (F_programs_find_invalid 16) :=
  (Y.all_programs_find_invalid (P := P) (w := w) 16)
theorem sc_programs_check_program : FnScope ["program", "path"] ["program"] (defScope s_programs_check_program) := ⟨rfl, rfl, rfl, by decide +kernel, rfl, by decide +kernel, by decide +kernel⟩
theorem Hd.b_programs_check_program {P : Program} {w : World} {K : PySem.W.Frag} {mg : Str → Option Value} {base : Heap} (Y : Hd P K mg base) (cdv : Value) (A : Around) (outer : List PySem.Env) (s : Shared) (H : Hp) (E : XK) (a : Addr) (hr : DL.Room 20 (A.deeper (envOfC "check_program" (defScope s_programs_check_program) s.heap.objs.size a cdv))) :
    DB (cxOf (L2.CX P w) P w K mg base ["program", "path"] "check_program" (defScope s_programs_check_program) a cdv A outer s H E) (fun c d _ H => E c d H) (defBody s_programs_check_program) c_programs_check_program :=
  (db_cons (ds_set 1 sc_programs_check_program.nd (de_if (dt_val (by exact (de_callB cd_isTy rfl (Y.free_isinstance) rfl (da_cons (de_var 0) (da_cons (by exact (de_ty rfl (Y.free_tuple) rfl)) da_nil))))) (by exact (de_cal (Y.ok_programs_find_invalid (P := P) (w := w)) hr (by decide) rfl (takes_of rfl rfl rfl rfl) (da_cons (de_var 0) (da_cons de_int da_nil)))) (de_tup da_nil)))
    (db_one (ds_if (dt_cmp opd_isnot (de_var 1) de_non (nomark _)) (db_one (ds_raise Y.exc_InvalidProgram DX.okVE Y.pf (Y.free_super) Y.glo_InvalidProgram rfl hr (takes_of rfl rfl rfl rfl) (de_var 1)))
    db_nil)))
theorem Hd.ok_programs_check_program {P : Program} {w : World} {K : PySem.W.Frag} {mg : Str → Option Value} {base : Heap} (Y : Hd P K mg base) : CalD P w K mg base 21 "check_program" 1 F_programs_check_program :=
  by obtain ⟨fd_programs_check_program, D_programs_check_program⟩ := Y.says.def_ 15 (d := d_programs_check_program) rfl; exact ⟨Y.glo_check_program, D_programs_check_program.kp, fd_programs_check_program, ["program"], rfl, fn_ok D_programs_check_program sc_programs_check_program fun cdv A outer s H E hr => Y.b_programs_check_program cdv A outer s H E _ hr, D_programs_check_program.bindsN fun _ _ _ _ _ _ us hl => match us, hl with | [_], _ => rfl⟩
theorem sc_bags_drop : FnScope ["bag", "count", "left", "kept", "number", "many", "dropped"] ["bag", "count"] (defScope s_bags_drop) := ⟨rfl, rfl, rfl, by decide +kernel, rfl, by decide +kernel, by decide +kernel⟩
theorem Hd.b_bags_drop {P : Program} {w : World} {K : PySem.W.Frag} {mg : Str → Option Value} {base : Heap} (Y : Hd P K mg base) (cdv : Value) (A : Around) (outer : List PySem.Env) (s : Shared) (H : Hp) (E : XK) (a : Addr) (hr : DL.Room 0 (A.deeper (envOfC "drop" (defScope s_bags_drop) s.heap.objs.size a cdv))) :
    DB (cxOf (L2.CX P w) P w K mg base ["bag", "count", "left", "kept", "number", "many", "dropped"] "drop" (defScope s_bags_drop) a cdv A outer s H E) (fun c d _ H => E c d H) (defBody s_bags_drop) c_bags_drop :=
  (db_cons (ds_par 2 3 rfl sc_bags_drop.nd (da_cons (de_var 1) (da_cons (de_new da_nil) da_nil)) rfl)
    (db_cons (ds_for [0, 1, 4, 5, 6] (passes_of rfl) rfl (di_any (de_var 0)) (dg_tup rfl (dgs_cons (dg_name 4 sc_bags_drop.nd) (dgs_cons (dg_name 5 sc_bags_drop.nd) dgs_nil)) 2) (db_cons (ds_set 6 sc_bags_drop.nd (by exact (de_callB (cd_min2 rfl) rfl (Y.free_min) rfl (da_cons (de_var 2) (da_cons (de_var 5) da_nil)))))
    (db_cons (ds_aug 2 sc_bags_drop.nd opd_isub (de_var 6))
    (db_one (ds_if (dt_cmp opd_gt (de_var 5) (de_var 6) (nomark _)) (db_one (ds_expr (by exact (de_append (de_var 3) (de_tup (da_cons (de_var 4) (da_cons (de_op opd_subI (de_var 5) (de_var 6)) da_nil)))))))
    db_nil)))))
    (db_one (ds_ret (by exact (de_callTy cd_tuple rfl (Y.free_tuple) rfl (da_cons (de_var 3) da_nil)))))))
theorem Hd.ok_bags_drop {P : Program} {w : World} {K : PySem.W.Frag} {mg : Str → Option Value} {base : Heap} (Y : Hd P K mg base) : CalD P w K mg base 1 "drop" 2 F_bags_drop :=
  by obtain ⟨fd_bags_drop, D_bags_drop⟩ := Y.says.def_ 16 (d := d_bags_drop) rfl; exact ⟨Y.glo_drop, D_bags_drop.kp, fd_bags_drop, ["bag", "count"], rfl, fn_ok D_bags_drop sc_bags_drop fun cdv A outer s H E hr => Y.b_bags_drop cdv A outer s H E _ hr, D_bags_drop.bindsN fun _ _ _ _ _ _ us hl => match us, hl with | [_, _], _ => rfl⟩
theorem sc_bags_add : FnScope ["first", "second", "counts", "number", "count"] ["first", "second"] (defScope s_bags_add) := ⟨rfl, rfl, rfl, by decide +kernel, rfl, by decide +kernel, by decide +kernel⟩
theorem Hd.b_bags_add {P : Program} {w : World} {K : PySem.W.Frag} {mg : Str → Option Value} {base : Heap} (Y : Hd P K mg base) (cdv : Value) (A : Around) (outer : List PySem.Env) (s : Shared) (H : Hp) (E : XK) (a : Addr) (hr : DL.Room 1 (A.deeper (envOfC "add" (defScope s_bags_add) s.heap.objs.size a cdv))) :
    DB (cxOf (L2.CX P w) P w K mg base ["first", "second", "counts", "number", "count"] "add" (defScope s_bags_add) a cdv A outer s H E) (fun c d _ H => E c d H) (defBody s_bags_add) c_bags_add :=
  (db_cons (ds_set 2 sc_bags_add.nd (by exact (de_callTy (cd_dict rfl) rfl (Y.free_dict) rfl (da_cons (de_var 0) da_nil))))
    (db_cons (ds_for [0, 1, 3, 4] (passes_of rfl) rfl (di_any (de_var 1)) (dg_tup rfl (dgs_cons (dg_name 3 sc_bags_add.nd) (dgs_cons (dg_name 4 sc_bags_add.nd) dgs_nil)) 2) (db_one (ds_dput hr.units1 (de_var 2) (de_var 3) (de_op opd_add (by exact (de_dget2 hr.units1 (de_var 2) (de_var 3) de_int ⟨rfl, rfl, rfl, rfl⟩)) (de_var 4)))))
    (db_one (ds_ret (by exact (de_cal (Y.ok_bags_from_counts (P := P) (w := w)) hr (by decide) rfl (takes_of rfl rfl rfl rfl) (da_cons (de_var 2) da_nil)))))))
theorem Hd.ok_bags_add {P : Program} {w : World} {K : PySem.W.Frag} {mg : Str → Option Value} {base : Heap} (Y : Hd P K mg base) : CalD P w K mg base 2 "add" 2 F_bags_add :=
  by obtain ⟨fd_bags_add, D_bags_add⟩ := Y.says.def_ 17 (d := d_bags_add) rfl; exact ⟨Y.glo_add, D_bags_add.kp, fd_bags_add, ["first", "second"], rfl, fn_ok D_bags_add sc_bags_add fun cdv A outer s H E hr => Y.b_bags_add cdv A outer s H E _ hr, D_bags_add.bindsN fun _ _ _ _ _ _ us hl => match us, hl with | [_, _], _ => rfl⟩
theorem sc_effects_join_parts : FnScope ["first", "second", "inserted", "removals", "survivors", "left"] ["first", "second"] (defScope s_effects_join_parts) := ⟨rfl, rfl, rfl, by decide +kernel, rfl, by decide +kernel, by decide +kernel⟩
theorem Hd.b_effects_join_parts {P : Program} {w : World} {K : PySem.W.Frag} {mg : Str → Option Value} {base : Heap} (Y : Hd P K mg base) (cdv : Value) (A : Around) (outer : List PySem.Env) (s : Shared) (H : Hp) (E : XK) (a : Addr) (hr : DL.Room 2 (A.deeper (envOfC "join_parts" (defScope s_effects_join_parts) s.heap.objs.size a cdv))) :
    DB (cxOf (L2.CX P w) P w K mg base ["first", "second", "inserted", "removals", "survivors", "left"] "join_parts" (defScope s_effects_join_parts) a cdv A outer s H E) (fun c d _ H => E c d H) (defBody s_effects_join_parts) c_effects_join_parts :=
  (db_cons (ds_asg (de_var 1) (dg_tup rfl (dgs_cons (dg_name 2 sc_effects_join_parts.nd) (dgs_cons (dg_name 3 sc_effects_join_parts.nd) (dgs_cons (dg_name 4 sc_effects_join_parts.nd) dgs_nil))) 3) (gT_ok (gsCons_ok (gN_ok 2) (gsCons_ok (gN_ok 3) (gsCons_ok (gN_ok 4) gsNil_ok)))))
    (db_cons (ds_set 5 sc_effects_join_parts.nd (by exact (de_cal (Y.ok_bags_drop (P := P) (w := w)) hr (by decide) rfl (takes_of rfl rfl rfl rfl) (da_cons (by exact (de_cal (Y.ok_bags_add (P := P) (w := w)) hr (by decide) rfl (takes_of rfl rfl rfl rfl) (da_cons (de_ix (de_var 0) de_int) (da_cons (by exact (de_cal (Y.ok_bags_subtract (P := P) (w := w)) hr (by decide) rfl (takes_of rfl rfl rfl rfl) (da_cons (de_var 2) (da_cons (de_var 4) da_nil)))) da_nil)))) (da_cons (de_var 3) da_nil)))))
    (db_one (ds_ret (de_tup (da_cons (by exact (de_cal (Y.ok_bags_add (P := P) (w := w)) hr (by decide) rfl (takes_of rfl rfl rfl rfl) (da_cons (de_ix (de_var 0) de_int) (da_cons (de_var 2) da_nil)))) (da_cons (de_op opd_add (de_ix (de_var 0) de_int) (de_var 3)) (da_cons (by exact (de_cal (Y.ok_bags_add (P := P) (w := w)) hr (by decide) rfl (takes_of rfl rfl rfl rfl) (da_cons (de_var 4) (da_cons (de_var 5) da_nil)))) da_nil))))))))
theorem Hd.ok_effects_join_parts {P : Program} {w : World} {K : PySem.W.Frag} {mg : Str → Option Value} {base : Heap} (Y : Hd P K mg base) : CalD P w K mg base 3 "join_parts" 2 F_effects_join_parts :=
  by obtain ⟨fd_effects_join_parts, D_effects_join_parts⟩ := Y.says.def_ 18 (d := d_effects_join_parts) rfl; exact ⟨Y.glo_join_parts, D_effects_join_parts.kp, fd_effects_join_parts, ["first", "second"], rfl, fn_ok D_effects_join_parts sc_effects_join_parts fun cdv A outer s H E hr => Y.b_effects_join_parts cdv A outer s H E _ hr, D_effects_join_parts.bindsN fun _ _ _ _ _ _ us hl => match us, hl with | [_, _], _ => rfl⟩
theorem sc_bags_scale : FnScope ["bag", "count", "number", "many"] ["bag", "count"] (defScope s_bags_scale) := ⟨rfl, rfl, rfl, by decide +kernel, rfl, by decide +kernel, by decide +kernel⟩
theorem Hd.b_bags_scale {P : Program} {w : World} {K : PySem.W.Frag} {mg : Str → Option Value} {base : Heap} (Y : Hd P K mg base) (cdv : Value) (A : Around) (outer : List PySem.Env) (s : Shared) (H : Hp) (E : XK) (a : Addr) (hr : DL.Room 0 (A.deeper (envOfC "scale" (defScope s_bags_scale) s.heap.objs.size a cdv))) :
    DB (cxOf (L2.CX P w) P w K mg base ["bag", "count", "number", "many"] "scale" (defScope s_bags_scale) a cdv A outer s H E) (fun c d _ H => E c d H) (defBody s_bags_scale) c_bags_scale :=
  (db_one (ds_ret (de_if (dt_cmp opd_gt (de_var 1) de_int (nomark _)) (by exact (de_callTy cd_tuple rfl (Y.free_tuple) rfl (da_cons (de_lc [("number", 2), ("many", 3)] rfl sc_bags_scale.nd (di_any (de_var 0)) (blkOk_by (N := ["bag", "count", "number", "many"]) (sc := defScope s_bags_scale) (by decide +kernel)) (fun _ _ _ _ _ => (dgv_tup rfl (dgsv_cons (dgv_name 2 sc_bags_scale.nd) (dgsv_cons (dgv_name 3 sc_bags_scale.nd) dgsv_nil)) 2)) (fun _ _ _ _ _ => dts_nil) (fun _ _ _ _ _ => (de_tup (da_cons (de_var 2) (da_cons (de_op opd_mul (de_var 3) (de_var 1)) da_nil))))) da_nil))) (de_tup da_nil))))
theorem Hd.ok_bags_scale {P : Program} {w : World} {K : PySem.W.Frag} {mg : Str → Option Value} {base : Heap} (Y : Hd P K mg base) : CalD P w K mg base 1 "scale" 2 F_bags_scale :=
  by obtain ⟨fd_bags_scale, D_bags_scale⟩ := Y.says.def_ 19 (d := d_bags_scale) rfl; exact ⟨Y.glo_scale, D_bags_scale.kp, fd_bags_scale, ["bag", "count"], rfl, fn_ok D_bags_scale sc_bags_scale fun cdv A outer s H E hr => Y.b_bags_scale cdv A outer s H E _ hr, D_bags_scale.bindsN fun _ _ _ _ _ _ us hl => match us, hl with | [_, _], _ => rfl⟩
theorem sc_effects_repeat_parts : FnScope ["parts", "count", "inserted", "removals", "survivors", "more"] ["parts", "count"] (defScope s_effects_repeat_parts) := ⟨rfl, rfl, rfl, by decide +kernel, rfl, by decide +kernel, by decide +kernel⟩
theorem Hd.b_effects_repeat_parts {P : Program} {w : World} {K : PySem.W.Frag} {mg : Str → Option Value} {base : Heap} (Y : Hd P K mg base) (cdv : Value) (A : Around) (outer : List PySem.Env) (s : Shared) (H : Hp) (E : XK) (a : Addr) (hr : DL.Room 2 (A.deeper (envOfC "repeat_parts" (defScope s_effects_repeat_parts) s.heap.objs.size a cdv))) :
    DB (cxOf (L2.CX P w) P w K mg base ["parts", "count", "inserted", "removals", "survivors", "more"] "repeat_parts" (defScope s_effects_repeat_parts) a cdv A outer s H E) (fun c d _ H => E c d H) (defBody s_effects_repeat_parts) c_effects_repeat_parts :=
  (db_cons (ds_if (dt_cmp (opd_eq hr.units) (de_var 1) de_int (nomark _)) (db_one (ds_ret (by exact (Y.de_cst_IDENTITY rfl))))
    db_nil)
    (db_cons (ds_asg (de_var 0) (dg_tup rfl (dgs_cons (dg_name 2 sc_effects_repeat_parts.nd) (dgs_cons (dg_name 3 sc_effects_repeat_parts.nd) (dgs_cons (dg_name 4 sc_effects_repeat_parts.nd) dgs_nil))) 3) (gT_ok (gsCons_ok (gN_ok 2) (gsCons_ok (gN_ok 3) (gsCons_ok (gN_ok 4) gsNil_ok)))))
    (db_cons (ds_set 5 sc_effects_repeat_parts.nd (by exact (de_cal (Y.ok_bags_scale (P := P) (w := w)) hr (by decide) rfl (takes_of rfl rfl rfl rfl) (da_cons (by exact (de_cal (Y.ok_bags_drop (P := P) (w := w)) hr (by decide) rfl (takes_of rfl rfl rfl rfl) (da_cons (de_var 2) (da_cons (de_var 3) da_nil)))) (da_cons (de_op opd_subI (de_var 1) de_int) da_nil)))))
    (db_one (ds_ret (de_tup (da_cons (by exact (de_cal (Y.ok_bags_scale (P := P) (w := w)) hr (by decide) rfl (takes_of rfl rfl rfl rfl) (da_cons (de_var 2) (da_cons (de_var 1) da_nil)))) (da_cons (de_op opd_mul (de_var 3) (de_var 1)) (da_cons (by exact (de_cal (Y.ok_bags_add (P := P) (w := w)) hr (by decide) rfl (takes_of rfl rfl rfl rfl) (da_cons (de_var 4) (da_cons (de_var 5) da_nil)))) da_nil)))))))))
theorem Hd.ok_effects_repeat_parts {P : Program} {w : World} {K : PySem.W.Frag} {mg : Str → Option Value} {base : Heap} (Y : Hd P K mg base) : CalD P w K mg base 3 "repeat_parts" 2 F_effects_repeat_parts :=
  by obtain ⟨fd_effects_repeat_parts, D_effects_repeat_parts⟩ := Y.says.def_ 20 (d := d_effects_repeat_parts) rfl; exact ⟨Y.glo_repeat_parts, D_effects_repeat_parts.kp, fd_effects_repeat_parts, ["parts", "count"], rfl, fn_ok D_effects_repeat_parts sc_effects_repeat_parts fun cdv A outer s H E hr => Y.b_effects_repeat_parts cdv A outer s H E _ hr, D_effects_repeat_parts.bindsN fun _ _ _ _ _ _ us hl => match us, hl with | [_, _], _ => rfl⟩
theorem sc_effects_program_parts : FnScope ["program", "parts", "step"] ["program"] (defScope s_effects_program_parts) := ⟨rfl, rfl, rfl, by decide +kernel, rfl, by decide +kernel, by decide +kernel⟩
theorem sc_effects_step_parts : FnScope ["step", "word", "number", "count", "bag", "inner"] ["step"] (defScope s_effects_step_parts) := ⟨rfl, rfl, rfl, by decide +kernel, rfl, by decide +kernel, by decide +kernel⟩
theorem Hd.b_effects_program_parts {P : Program} {w : World} {K : PySem.W.Frag} {mg : Str → Option Value} {base : Heap} (Y : Hd P K mg base) (R_effects_program_parts : Fn) (R_effects_step_parts : Fn) (kk jj : Nat) (hL : 3 ≤ jj) (hk : kk ≤ jj) (C_effects_program_parts : CalD P w K mg base kk "program_parts" 1 R_effects_program_parts) (C_effects_step_parts : CalD P w K mg base kk "step_parts" 1 R_effects_step_parts) (cdv : Value) (A : Around) (outer : List PySem.Env) (s : Shared) (H : Hp) (E : XK) (a : Addr) (hr : DL.Room jj (A.deeper (envOfC "program_parts" (defScope s_effects_program_parts) s.heap.objs.size a cdv))) :
    DB (cxOf (L2.CX P w) P w K mg base ["program", "parts", "step"] "program_parts" (defScope s_effects_program_parts) a cdv A outer s H E) (fun c d _ H => E c d H) (defBody s_effects_program_parts) (c_effects_program_parts R_effects_program_parts R_effects_step_parts) :=
  (db_cons (ds_set 1 sc_effects_program_parts.nd (by exact (Y.de_cst_IDENTITY rfl)))
    (db_cons (ds_for [0, 2] (passes_of rfl) rfl (di_any (de_var 0)) (dg_name 2 sc_effects_program_parts.nd) (db_one (ds_set 1 sc_effects_program_parts.nd (by exact (de_cal (Y.ok_effects_join_parts (P := P) (w := w)) hr (Nat.le_trans (by decide) hL) rfl (takes_of rfl rfl rfl rfl) (da_cons (de_var 1) (da_cons (by exact (de_cal C_effects_step_parts hr hk rfl (takes_of rfl rfl rfl rfl) (da_cons (de_var 2) da_nil))) da_nil)))))))
    (db_one (ds_ret (de_var 1)))))
theorem Hd.b_effects_step_parts {P : Program} {w : World} {K : PySem.W.Frag} {mg : Str → Option Value} {base : Heap} (Y : Hd P K mg base) (R_effects_program_parts : Fn) (R_effects_step_parts : Fn) (kk jj : Nat) (hL : 3 ≤ jj) (hk : kk ≤ jj) (C_effects_program_parts : CalD P w K mg base kk "program_parts" 1 R_effects_program_parts) (C_effects_step_parts : CalD P w K mg base kk "step_parts" 1 R_effects_step_parts) (cdv : Value) (A : Around) (outer : List PySem.Env) (s : Shared) (H : Hp) (E : XK) (a : Addr) (hr : DL.Room jj (A.deeper (envOfC "step_parts" (defScope s_effects_step_parts) s.heap.objs.size a cdv))) :
    DB (cxOf (L2.CX P w) P w K mg base ["step", "word", "number", "count", "bag", "inner"] "step_parts" (defScope s_effects_step_parts) a cdv A outer s H E) (fun c d _ H => E c d H) (defBody s_effects_step_parts) (c_effects_step_parts R_effects_program_parts R_effects_step_parts) :=
  (db_one (ds_match (de_var 0) (dm_seqIf rfl sc_effects_step_parts.nd (.cons 1 rfl (.inl rfl) (.inr rfl) (.cons 2 rfl (.inl rfl) (.inr rfl) (.cons 3 rfl (.inl rfl) (.inr rfl) .nil))) (by decide) (dt_cmp (opd_eq hr.units) (de_var 1) de_str (nomark _)) (db_cons (ds_set 4 sc_effects_step_parts.nd (by exact (de_cal (Y.ok_bags_scale (P := P) (w := w)) hr (Nat.le_trans (by decide) hL) rfl (takes_of rfl rfl rfl rfl) (da_cons (de_tup (da_cons (de_tup (da_cons (de_var 2) (da_cons de_int da_nil))) da_nil)) (da_cons (de_var 3) da_nil)))))
    (db_one (ds_ret (de_tup (da_cons (de_var 4) (da_cons de_int (da_cons (de_var 4) da_nil))))))) (dm_seq rfl sc_effects_step_parts.nd (.cons 1 rfl (.inl rfl) (.inr rfl) (.cons 3 rfl (.inl rfl) (.inr rfl) .nil)) (by decide) (db_one (ds_ret (de_tup (da_cons (de_tup da_nil) (da_cons (de_var 3) (da_cons (de_tup da_nil) da_nil)))))) (dm_seq rfl sc_effects_step_parts.nd (.cons 1 rfl (.inl rfl) (.inr rfl) (.cons 3 rfl (.inl rfl) (.inr rfl) (.cons 5 rfl (.inl rfl) (.inr rfl) .nil))) (by decide) (db_one (ds_ret (by exact (de_cal (Y.ok_effects_repeat_parts (P := P) (w := w)) hr (Nat.le_trans (by decide) hL) rfl (takes_of rfl rfl rfl rfl) (da_cons (by exact (de_cal C_effects_program_parts hr hk rfl (takes_of rfl rfl rfl rfl) (da_cons (de_var 5) da_nil))) (da_cons (de_var 3) da_nil)))))) dm_nil)))))
theorem Hd.all_effects_program_parts_effects_step_parts {P : Program} {w : World} {K : PySem.W.Frag} {mg : Str → Option Value} {base : Heap} (Y : Hd P K mg base) : ∀ n : Nat, CalD P w K mg base (4 + n) "program_parts" 1 (F_effects_program_parts n) ∧ CalD P w K mg base (4 + n) "step_parts" 1 (F_effects_step_parts n) :=
  by
  obtain ⟨fd_effects_program_parts, D_effects_program_parts⟩ := Y.says.def_ 21 (d := d_effects_program_parts) rfl; obtain ⟨fd_effects_step_parts, D_effects_step_parts⟩ := Y.says.def_ 22 (d := d_effects_step_parts) rfl
  intro n
  induction n with
  | zero => exact ⟨⟨Y.glo_program_parts, D_effects_program_parts.kp, fd_effects_program_parts, ["program"], rfl, fn_st, D_effects_program_parts.bindsN fun _ _ _ _ _ _ us hl => match us, hl with | [_], _ => rfl⟩, ⟨Y.glo_step_parts, D_effects_step_parts.kp, fd_effects_step_parts, ["step"], rfl, fn_st, D_effects_step_parts.bindsN fun _ _ _ _ _ _ us hl => match us, hl with | [_], _ => rfl⟩⟩
  | succ n ih =>
    obtain ⟨h0, h1⟩ := ih
    exact ⟨⟨Y.glo_program_parts, D_effects_program_parts.kp, fd_effects_program_parts, ["program"], rfl, fn_ok D_effects_program_parts sc_effects_program_parts fun cdv A outer s H E hr => Y.b_effects_program_parts (F_effects_program_parts n) (F_effects_step_parts n) (4 + n) (4 + n) (by omega) (Nat.le_refl _) h0 h1 cdv A outer s H E _ hr, D_effects_program_parts.bindsN fun _ _ _ _ _ _ us hl => match us, hl with | [_], _ => rfl⟩, ⟨Y.glo_step_parts, D_effects_step_parts.kp, fd_effects_step_parts, ["step"], rfl, fn_ok D_effects_step_parts sc_effects_step_parts fun cdv A outer s H E hr => Y.b_effects_step_parts (F_effects_program_parts n) (F_effects_step_parts n) (4 + n) (4 + n) (by omega) (Nat.le_refl _) h0 h1 cdv A outer s H E _ hr, D_effects_step_parts.bindsN fun _ _ _ _ _ _ us hl => match us, hl with | [_], _ => rfl⟩⟩
theorem Hd.ok_effects_program_parts {P : Program} {w : World} {K : PySem.W.Frag} {mg : Str → Option Value} {base : Heap} (Y : Hd P K mg base) : CalD P w K mg base 34 "program_parts" 1 (F_effects_program_parts 30) :=
  (Y.all_effects_program_parts_effects_step_parts (P := P) (w := w) 30).1
theorem sc_Effect_of : FnScope ["cls", "program", "inserted", "removals", "survivors"] ["cls", "program"] (defScope s_Effect_of) := ⟨rfl, rfl, rfl, by decide +kernel, rfl, by decide +kernel, by decide +kernel⟩
theorem Hd.b_Effect_of {P : Program} {w : World} {K : PySem.W.Frag} {mg : Str → Option Value} {base : Heap} (Y : Hd P K mg base) (cdv : Value) (A : Around) (outer : List PySem.Env) (s : Shared) (H : Hp) (E : XK) (a : Addr) (hr : DL.Room 34 (A.deeper (envOfC "Effect.of" (defScope s_Effect_of) s.heap.objs.size a cdv))) :
    DB (cxOf (L2.CX P w) P w K mg base ["cls", "program", "inserted", "removals", "survivors"] "Effect.of" (defScope s_Effect_of) a cdv A outer s H E) (fun c d _ H => E c d H) (defBody s_Effect_of) c_Effect_of :=
  (db_cons (ds_expr (by exact (de_cal (Y.ok_programs_check_program (P := P) (w := w)) hr (by decide) rfl (takes_of rfl rfl rfl rfl) (da_cons (de_var 1) da_nil))))
    (db_cons (ds_asg (by exact (de_cal (Y.ok_effects_program_parts (P := P) (w := w)) hr (by decide) rfl (takes_of rfl rfl rfl rfl) (da_cons (de_var 1) da_nil))) (dg_tup rfl (dgs_cons (dg_name 2 sc_Effect_of.nd) (dgs_cons (dg_name 3 sc_Effect_of.nd) (dgs_cons (dg_name 4 sc_Effect_of.nd) dgs_nil))) 3) (gT_ok (gsCons_ok (gN_ok 2) (gsCons_ok (gN_ok 3) (gsCons_ok (gN_ok 4) gsNil_ok)))))
    (db_one (ds_ret (by exact (de_makV (Y.mk_Effect_init (P := P) (w := w)) hr (by decide) (de_var 0) (takes_of rfl rfl rfl rfl) (da_cons (de_var 2) (da_cons (de_var 3) (da_cons (de_var 4) da_nil)))))))))
theorem Hd.ok_Effect_of {P : Program} {w : World} {K : PySem.W.Frag} {mg : Str → Option Value} {base : Heap} (Y : Hd P K mg base) : CmtD P w K mg base 35 "Effect" "of" 1 F_Effect_of :=
  by obtain ⟨fd_Effect_of, D_Effect_of⟩ := Y.says.def_ 23 (d := d_Effect_of) rfl; exact ⟨Y.glo_Effect, tWrap_ok (Y.says.fact 38 (f := (tWrap "Effect" "of" "classmethod" "classmethod.__get__")) rfl), fd_Effect_of, ["cls", "program"], rfl, fn_ok D_Effect_of sc_Effect_of fun cdv A outer s H E hr => Y.b_Effect_of cdv A outer s H E _ hr, D_Effect_of.bindsN fun _ _ _ _ _ _ us hl => match us, hl with | [_, _], _ => rfl⟩
theorem sc_Effect_removals : FnScope ["self"] ["self"] (defScope s_Effect_removals) := ⟨rfl, rfl, rfl, by decide +kernel, rfl, by decide +kernel, by decide +kernel⟩
theorem Hd.b_Effect_removals {P : Program} {w : World} {K : PySem.W.Frag} {mg : Str → Option Value} {base : Heap} (Y : Hd P K mg base) (cdv : Value) (A : Around) (outer : List PySem.Env) (s : Shared) (H : Hp) (E : XK) (a : Addr) (hr : DL.Room 0 (A.deeper (envOfC "Effect.removals" (defScope s_Effect_removals) s.heap.objs.size a cdv))) :
    DB (cxOf (L2.CX P w) P w K mg base ["self"] "Effect.removals" (defScope s_Effect_removals) a cdv A outer s H E) (fun c d _ H => E c d H) (defBody s_Effect_removals) c_Effect_removals :=
  (db_one (ds_ret (de_ix (de_fld Y.cls_Effect Y.noat_Effect_own_parts (de_var 0)) de_int)))
theorem Hd.ok_Effect_removals {P : Program} {w : World} {K : PySem.W.Frag} {mg : Str → Option Value} {base : Heap} (Y : Hd P K mg base) : PrpD P w K mg base 1 "Effect" "removals" F_Effect_removals :=
  by obtain ⟨fd_Effect_removals, D_Effect_removals⟩ := Y.says.def_ 24 (d := d_Effect_removals) rfl; exact ⟨Y.cls_Effect, _, _, fd_Effect_removals, ["self"], tProp_ok (Y.says.fact 55 (f := (tProp "Effect" "removals")) rfl), fn_ok D_Effect_removals sc_Effect_removals fun cdv A outer s H E hr => Y.b_Effect_removals cdv A outer s H E _ hr, D_Effect_removals.bindsN fun _ _ _ _ _ _ us hl => match us, hl with | [_], _ => rfl⟩
theorem sc_Effect_needed : FnScope ["self"] ["self"] (defScope s_Effect_needed) := ⟨rfl, rfl, rfl, by decide +kernel, rfl, by decide +kernel, by decide +kernel⟩
theorem Hd.b_Effect_needed {P : Program} {w : World} {K : PySem.W.Frag} {mg : Str → Option Value} {base : Heap} (Y : Hd P K mg base) (cdv : Value) (A : Around) (outer : List PySem.Env) (s : Shared) (H : Hp) (E : XK) (a : Addr) (hr : DL.Room 1 (A.deeper (envOfC "Effect.needed" (defScope s_Effect_needed) s.heap.objs.size a cdv))) :
    DB (cxOf (L2.CX P w) P w K mg base ["self"] "Effect.needed" (defScope s_Effect_needed) a cdv A outer s H E) (fun c d _ H => E c d H) (defBody s_Effect_needed) c_Effect_needed :=
  (db_one (ds_ret (de_op opd_add (de_op opd_subI (de_ix (de_fld Y.cls_Effect Y.noat_Effect_own_parts (de_var 0)) de_int) (by exact (de_cal (Y.ok_bags_total (P := P) (w := w)) hr (by decide) rfl (takes_of rfl rfl rfl rfl) (da_cons (de_ix (de_fld Y.cls_Effect Y.noat_Effect_own_parts (de_var 0)) de_int) da_nil)))) (by exact (de_cal (Y.ok_bags_total (P := P) (w := w)) hr (by decide) rfl (takes_of rfl rfl rfl rfl) (da_cons (de_ix (de_fld Y.cls_Effect Y.noat_Effect_own_parts (de_var 0)) de_int) da_nil))))))
theorem Hd.ok_Effect_needed {P : Program} {w : World} {K : PySem.W.Frag} {mg : Str → Option Value} {base : Heap} (Y : Hd P K mg base) : PrpD P w K mg base 2 "Effect" "needed" F_Effect_needed :=
  by obtain ⟨fd_Effect_needed, D_Effect_needed⟩ := Y.says.def_ 25 (d := d_Effect_needed) rfl; exact ⟨Y.cls_Effect, _, _, fd_Effect_needed, ["self"], tProp_ok (Y.says.fact 57 (f := (tProp "Effect" "needed")) rfl), fn_ok D_Effect_needed sc_Effect_needed fun cdv A outer s H E hr => Y.b_Effect_needed cdv A outer s H E _ hr, D_Effect_needed.bindsN fun _ _ _ _ _ _ us hl => match us, hl with | [_], _ => rfl⟩
theorem sc_Effect_consumed : FnScope ["self"] ["self"] (defScope s_Effect_consumed) := ⟨rfl, rfl, rfl, by decide +kernel, rfl, by decide +kernel, by decide +kernel⟩
theorem Hd.b_Effect_consumed {P : Program} {w : World} {K : PySem.W.Frag} {mg : Str → Option Value} {base : Heap} (Y : Hd P K mg base) (cdv : Value) (A : Around) (outer : List PySem.Env) (s : Shared) (H : Hp) (E : XK) (a : Addr) (hr : DL.Room 2 (A.deeper (envOfC "Effect.consumed" (defScope s_Effect_consumed) s.heap.objs.size a cdv))) :
    DB (cxOf (L2.CX P w) P w K mg base ["self"] "Effect.consumed" (defScope s_Effect_consumed) a cdv A outer s H E) (fun c d _ H => E c d H) (defBody s_Effect_consumed) c_Effect_consumed :=
  (db_one (ds_ret (by exact (de_cal (Y.ok_bags_subtract (P := P) (w := w)) hr (by decide) rfl (takes_of rfl rfl rfl rfl) (da_cons (de_ix (de_fld Y.cls_Effect Y.noat_Effect_own_parts (de_var 0)) de_int) (da_cons (de_ix (de_fld Y.cls_Effect Y.noat_Effect_own_parts (de_var 0)) de_int) da_nil))))))
theorem Hd.ok_Effect_consumed {P : Program} {w : World} {K : PySem.W.Frag} {mg : Str → Option Value} {base : Heap} (Y : Hd P K mg base) : PrpD P w K mg base 3 "Effect" "consumed" F_Effect_consumed :=
  by obtain ⟨fd_Effect_consumed, D_Effect_consumed⟩ := Y.says.def_ 26 (d := d_Effect_consumed) rfl; exact ⟨Y.cls_Effect, _, _, fd_Effect_consumed, ["self"], tProp_ok (Y.says.fact 60 (f := (tProp "Effect" "consumed")) rfl), fn_ok D_Effect_consumed sc_Effect_consumed fun cdv A outer s H E hr => Y.b_Effect_consumed cdv A outer s H E _ hr, D_Effect_consumed.bindsN fun _ _ _ _ _ _ us hl => match us, hl with | [_], _ => rfl⟩
theorem sc_Effect_pool : FnScope ["self", "bag"] ["self", "bag"] (defScope s_Effect_pool) := ⟨rfl, rfl, rfl, by decide +kernel, rfl, by decide +kernel, by decide +kernel⟩
theorem Hd.b_Effect_pool {P : Program} {w : World} {K : PySem.W.Frag} {mg : Str → Option Value} {base : Heap} (Y : Hd P K mg base) (cdv : Value) (A : Around) (outer : List PySem.Env) (s : Shared) (H : Hp) (E : XK) (a : Addr) (hr : DL.Room 4 (A.deeper (envOfC "Effect.pool" (defScope s_Effect_pool) s.heap.objs.size a cdv))) :
    DB (cxOf (L2.CX P w) P w K mg base ["self", "bag"] "Effect.pool" (defScope s_Effect_pool) a cdv A outer s H E) (fun c d _ H => E c d H) (defBody s_Effect_pool) c_Effect_pool :=
  (db_cons (ds_expr (by exact (de_cal (Y.ok_bags_check_bag (P := P) (w := w)) hr (by decide) rfl (takes_of rfl rfl rfl rfl) (da_cons (de_var 1) da_nil))))
    (db_cons (ds_if (dt_cmp opd_lt (by exact (de_cal (Y.ok_bags_total (P := P) (w := w)) hr (by decide) rfl (takes_of rfl rfl rfl rfl) (da_cons (de_var 1) da_nil))) (de_prp (Y.ok_Effect_needed (P := P) (w := w)) hr (by decide) takes0 (de_var 0)) (nomark _)) (db_one (ds_raise Y.exc_EmptyHeap DX.okLE Y.pf (Y.free_super) Y.glo_EmptyHeap rfl hr (takes_of rfl rfl rfl rfl) de_non))
    db_nil)
    (db_one (ds_ret (by exact (de_cal (Y.ok_bags_add (P := P) (w := w)) hr (by decide) rfl (takes_of rfl rfl rfl rfl) (da_cons (de_var 1) (da_cons (de_prp (Y.ok_Effect_consumed (P := P) (w := w)) hr (by decide) takes0 (de_var 0)) da_nil))))))))
theorem Hd.ok_Effect_pool {P : Program} {w : World} {K : PySem.W.Frag} {mg : Str → Option Value} {base : Heap} (Y : Hd P K mg base) : MetD P w K mg base 5 "Effect" "pool" 2 F_Effect_pool :=
  by obtain ⟨fd_Effect_pool, D_Effect_pool⟩ := Y.says.def_ 27 (d := d_Effect_pool) rfl; exact ⟨Y.cls_Effect, _, fd_Effect_pool, ["self", "bag"], rfl, tMeth_ok (Y.says.fact 56 (f := (tMeth "Effect" "pool")) rfl), fn_ok D_Effect_pool sc_Effect_pool fun cdv A outer s H E hr => Y.b_Effect_pool cdv A outer s H E _ hr, D_Effect_pool.bindsN fun _ _ _ _ _ _ us hl => match us, hl with | [_, _], _ => rfl⟩
theorem sc_Effect_survivors : FnScope ["self"] ["self"] (defScope s_Effect_survivors) := ⟨rfl, rfl, rfl, by decide +kernel, rfl, by decide +kernel, by decide +kernel⟩
theorem Hd.b_Effect_survivors {P : Program} {w : World} {K : PySem.W.Frag} {mg : Str → Option Value} {base : Heap} (Y : Hd P K mg base) (cdv : Value) (A : Around) (outer : List PySem.Env) (s : Shared) (H : Hp) (E : XK) (a : Addr) (hr : DL.Room 0 (A.deeper (envOfC "Effect.survivors" (defScope s_Effect_survivors) s.heap.objs.size a cdv))) :
    DB (cxOf (L2.CX P w) P w K mg base ["self"] "Effect.survivors" (defScope s_Effect_survivors) a cdv A outer s H E) (fun c d _ H => E c d H) (defBody s_Effect_survivors) c_Effect_survivors :=
  (db_one (ds_ret (de_ix (de_fld Y.cls_Effect Y.noat_Effect_own_parts (de_var 0)) de_int)))
theorem Hd.ok_Effect_survivors {P : Program} {w : World} {K : PySem.W.Frag} {mg : Str → Option Value} {base : Heap} (Y : Hd P K mg base) : PrpD P w K mg base 1 "Effect" "survivors" F_Effect_survivors :=
  by obtain ⟨fd_Effect_survivors, D_Effect_survivors⟩ := Y.says.def_ 28 (d := d_Effect_survivors) rfl; exact ⟨Y.cls_Effect, _, _, fd_Effect_survivors, ["self"], tProp_ok (Y.says.fact 61 (f := (tProp "Effect" "survivors")) rfl), fn_ok D_Effect_survivors sc_Effect_survivors fun cdv A outer s H E hr => Y.b_Effect_survivors cdv A outer s H E _ hr, D_Effect_survivors.bindsN fun _ _ _ _ _ _ us hl => match us, hl with | [_], _ => rfl⟩
theorem sc_Effect_apply : FnScope ["self", "bag"] ["self", "bag"] (defScope s_Effect_apply) := ⟨rfl, rfl, rfl, by decide +kernel, rfl, by decide +kernel, by decide +kernel⟩
theorem Hd.b_Effect_apply {P : Program} {w : World} {K : PySem.W.Frag} {mg : Str → Option Value} {base : Heap} (Y : Hd P K mg base) (cdv : Value) (A : Around) (outer : List PySem.Env) (s : Shared) (H : Hp) (E : XK) (a : Addr) (hr : DL.Room 5 (A.deeper (envOfC "Effect.apply" (defScope s_Effect_apply) s.heap.objs.size a cdv))) :
    DB (cxOf (L2.CX P w) P w K mg base ["self", "bag"] "Effect.apply" (defScope s_Effect_apply) a cdv A outer s H E) (fun c d _ H => E c d H) (defBody s_Effect_apply) c_Effect_apply :=
  (db_one (ds_ret (by exact (de_cal (Y.ok_bags_add (P := P) (w := w)) hr (by decide) rfl (takes_of rfl rfl rfl rfl) (da_cons (de_prp (Y.ok_Effect_survivors (P := P) (w := w)) hr (by decide) takes0 (de_var 0)) (da_cons (by exact (de_cal (Y.ok_bags_drop (P := P) (w := w)) hr (by decide) rfl (takes_of rfl rfl rfl rfl) (da_cons (by exact (de_met (pl := _) (Y.ok_Effect_pool (P := P) (w := w)) hr (by decide) (takes_of rfl rfl rfl rfl) (de_var 0) (da_cons (de_var 1) da_nil))) (da_cons (de_prp (Y.ok_Effect_removals (P := P) (w := w)) hr (by decide) takes0 (de_var 0)) da_nil)))) da_nil))))))
theorem Hd.ok_Effect_apply {P : Program} {w : World} {K : PySem.W.Frag} {mg : Str → Option Value} {base : Heap} (Y : Hd P K mg base) : MetD P w K mg base 6 "Effect" "apply" 2 F_Effect_apply :=
  by obtain ⟨fd_Effect_apply, D_Effect_apply⟩ := Y.says.def_ 29 (d := d_Effect_apply) rfl; exact ⟨Y.cls_Effect, _, fd_Effect_apply, ["self", "bag"], rfl, tMeth_ok (Y.says.fact 54 (f := (tMeth "Effect" "apply")) rfl), fn_ok D_Effect_apply sc_Effect_apply fun cdv A outer s H E hr => Y.b_Effect_apply cdv A outer s H E _ hr, D_Effect_apply.bindsN fun _ _ _ _ _ _ us hl => match us, hl with | [_, _], _ => rfl⟩
theorem sc_bags_take : FnScope ["bag", "count", "left", "taken", "number", "many"] ["bag", "count"] (defScope s_bags_take) := ⟨rfl, rfl, rfl, by decide +kernel, rfl, by decide +kernel, by decide +kernel⟩
theorem Hd.b_bags_take {P : Program} {w : World} {K : PySem.W.Frag} {mg : Str → Option Value} {base : Heap} (Y : Hd P K mg base) (cdv : Value) (A : Around) (outer : List PySem.Env) (s : Shared) (H : Hp) (E : XK) (a : Addr) (hr : DL.Room 0 (A.deeper (envOfC "take" (defScope s_bags_take) s.heap.objs.size a cdv))) :
    DB (cxOf (L2.CX P w) P w K mg base ["bag", "count", "left", "taken", "number", "many"] "take" (defScope s_bags_take) a cdv A outer s H E) (fun c d _ H => E c d H) (defBody s_bags_take) c_bags_take :=
  (db_cons (ds_par 2 3 rfl sc_bags_take.nd (da_cons (de_var 1) (da_cons (de_new da_nil) da_nil)) rfl)
    (db_cons (ds_for [0, 1, 4, 5] (passes_of rfl) rfl (di_any (de_var 0)) (dg_tup rfl (dgs_cons (dg_name 4 sc_bags_take.nd) (dgs_cons (dg_name 5 sc_bags_take.nd) dgs_nil)) 2) (db_one (ds_if (dt_cmp opd_gt (de_var 2) de_int (nomark _)) (db_cons (ds_expr (by exact (de_append (de_var 3) (de_tup (da_cons (de_var 4) (da_cons (by exact (de_callB (cd_min2 rfl) rfl (Y.free_min) rfl (da_cons (de_var 2) (da_cons (de_var 5) da_nil)))) da_nil))))))
    (db_one (ds_aug 2 sc_bags_take.nd opd_isub (de_ix (de_ix (de_var 3) (de_neg de_int)) de_int))))
    db_nil)))
    (db_one (ds_ret (by exact (de_callTy cd_tuple rfl (Y.free_tuple) rfl (da_cons (de_var 3) da_nil)))))))
theorem Hd.ok_bags_take {P : Program} {w : World} {K : PySem.W.Frag} {mg : Str → Option Value} {base : Heap} (Y : Hd P K mg base) : CalD P w K mg base 1 "take" 2 F_bags_take :=
  by obtain ⟨fd_bags_take, D_bags_take⟩ := Y.says.def_ 30 (d := d_bags_take) rfl; exact ⟨Y.glo_take, D_bags_take.kp, fd_bags_take, ["bag", "count"], rfl, fn_ok D_bags_take sc_bags_take fun cdv A outer s H E hr => Y.b_bags_take cdv A outer s H E _ hr, D_bags_take.bindsN fun _ _ _ _ _ _ us hl => match us, hl with | [_, _], _ => rfl⟩
theorem sc_Effect_removed : FnScope ["self", "bag"] ["self", "bag"] (defScope s_Effect_removed) := ⟨rfl, rfl, rfl, by decide +kernel, rfl, by decide +kernel, by decide +kernel⟩
theorem Hd.b_Effect_removed {P : Program} {w : World} {K : PySem.W.Frag} {mg : Str → Option Value} {base : Heap} (Y : Hd P K mg base) (cdv : Value) (A : Around) (outer : List PySem.Env) (s : Shared) (H : Hp) (E : XK) (a : Addr) (hr : DL.Room 5 (A.deeper (envOfC "Effect.removed" (defScope s_Effect_removed) s.heap.objs.size a cdv))) :
    DB (cxOf (L2.CX P w) P w K mg base ["self", "bag"] "Effect.removed" (defScope s_Effect_removed) a cdv A outer s H E) (fun c d _ H => E c d H) (defBody s_Effect_removed) c_Effect_removed :=
  (db_one (ds_ret (by exact (de_cal (Y.ok_bags_take (P := P) (w := w)) hr (by decide) rfl (takes_of rfl rfl rfl rfl) (da_cons (by exact (de_met (pl := _) (Y.ok_Effect_pool (P := P) (w := w)) hr (by decide) (takes_of rfl rfl rfl rfl) (de_var 0) (da_cons (de_var 1) da_nil))) (da_cons (de_prp (Y.ok_Effect_removals (P := P) (w := w)) hr (by decide) takes0 (de_var 0)) da_nil))))))
theorem Hd.ok_Effect_removed {P : Program} {w : World} {K : PySem.W.Frag} {mg : Str → Option Value} {base : Heap} (Y : Hd P K mg base) : MetD P w K mg base 6 "Effect" "removed" 2 F_Effect_removed :=
  by obtain ⟨fd_Effect_removed, D_Effect_removed⟩ := Y.says.def_ 31 (d := d_Effect_removed) rfl; exact ⟨Y.cls_Effect, _, fd_Effect_removed, ["self", "bag"], rfl, tMeth_ok (Y.says.fact 62 (f := (tMeth "Effect" "removed")) rfl), fn_ok D_Effect_removed sc_Effect_removed fun cdv A outer s H E hr => Y.b_Effect_removed cdv A outer s H E _ hr, D_Effect_removed.bindsN fun _ _ _ _ _ _ us hl => match us, hl with | [_, _], _ => rfl⟩
theorem sc_bags_check_number : FnScope ["value"] ["value"] (defScope s_bags_check_number) := ⟨rfl, rfl, rfl, by decide +kernel, rfl, by decide +kernel, by decide +kernel⟩
theorem Hd.b_bags_check_number {P : Program} {w : World} {K : PySem.W.Frag} {mg : Str → Option Value} {base : Heap} (Y : Hd P K mg base) (cdv : Value) (A : Around) (outer : List PySem.Env) (s : Shared) (H : Hp) (E : XK) (a : Addr) (hr : DL.Room 1 (A.deeper (envOfC "check_number" (defScope s_bags_check_number) s.heap.objs.size a cdv))) :
    DB (cxOf (L2.CX P w) P w K mg base ["value"] "check_number" (defScope s_bags_check_number) a cdv A outer s H E) (fun c d _ H => E c d H) (defBody s_bags_check_number) c_bags_check_number :=
  (db_one (ds_if (dt_not (dt_val (by exact (de_cal (Y.ok_bags_is_integer (P := P) (w := w)) hr (by decide) rfl (takes_of rfl rfl rfl rfl) (da_cons (de_var 0) da_nil))))) (db_one (ds_raise Y.exc_InvalidNumber DX.okVE Y.pf (Y.free_super) Y.glo_InvalidNumber rfl hr (takes_of rfl rfl rfl rfl) (de_var 0)))
    db_nil))
theorem Hd.ok_bags_check_number {P : Program} {w : World} {K : PySem.W.Frag} {mg : Str → Option Value} {base : Heap} (Y : Hd P K mg base) : CalD P w K mg base 2 "check_number" 1 F_bags_check_number :=
  by obtain ⟨fd_bags_check_number, D_bags_check_number⟩ := Y.says.def_ 32 (d := d_bags_check_number) rfl; exact ⟨Y.glo_check_number, D_bags_check_number.kp, fd_bags_check_number, ["value"], rfl, fn_ok D_bags_check_number sc_bags_check_number fun cdv A outer s H E hr => Y.b_bags_check_number cdv A outer s H E _ hr, D_bags_check_number.bindsN fun _ _ _ _ _ _ us hl => match us, hl with | [_], _ => rfl⟩
theorem sc_effects_move_bag : FnScope ["bag", "number", "one", "count"] ["bag", "number"] (defScope s_effects_move_bag) := ⟨rfl, rfl, rfl, by decide +kernel, rfl, by decide +kernel, by decide +kernel⟩
theorem Hd.b_effects_move_bag {P : Program} {w : World} {K : PySem.W.Frag} {mg : Str → Option Value} {base : Heap} (Y : Hd P K mg base) (cdv : Value) (A : Around) (outer : List PySem.Env) (s : Shared) (H : Hp) (E : XK) (a : Addr) (hr : DL.Room 0 (A.deeper (envOfC "move_bag" (defScope s_effects_move_bag) s.heap.objs.size a cdv))) :
    DB (cxOf (L2.CX P w) P w K mg base ["bag", "number", "one", "count"] "move_bag" (defScope s_effects_move_bag) a cdv A outer s H E) (fun c d _ H => E c d H) (defBody s_effects_move_bag) c_effects_move_bag :=
  (db_one (ds_ret (by exact (de_callTy cd_tuple rfl (Y.free_tuple) rfl (da_cons (de_lc [("one", 2), ("count", 3)] rfl sc_effects_move_bag.nd (di_any (de_var 0)) (blkOk_by (N := ["bag", "number", "one", "count"]) (sc := defScope s_effects_move_bag) (by decide +kernel)) (fun _ _ _ _ _ => (dgv_tup rfl (dgsv_cons (dgv_name 2 sc_effects_move_bag.nd) (dgsv_cons (dgv_name 3 sc_effects_move_bag.nd) dgsv_nil)) 2)) (fun _ _ _ _ _ => dts_nil) (fun _ _ _ _ _ => (de_tup (da_cons (de_op opd_add (de_var 2) (de_var 1)) (da_cons (de_var 3) da_nil))))) da_nil)))))
theorem Hd.ok_effects_move_bag {P : Program} {w : World} {K : PySem.W.Frag} {mg : Str → Option Value} {base : Heap} (Y : Hd P K mg base) : CalD P w K mg base 1 "move_bag" 2 F_effects_move_bag :=
  by obtain ⟨fd_effects_move_bag, D_effects_move_bag⟩ := Y.says.def_ 33 (d := d_effects_move_bag) rfl; exact ⟨Y.glo_move_bag, D_effects_move_bag.kp, fd_effects_move_bag, ["bag", "number"], rfl, fn_ok D_effects_move_bag sc_effects_move_bag fun cdv A outer s H E hr => Y.b_effects_move_bag cdv A outer s H E _ hr, D_effects_move_bag.bindsN fun _ _ _ _ _ _ us hl => match us, hl with | [_, _], _ => rfl⟩
theorem sc_Effect_inserted : FnScope ["self"] ["self"] (defScope s_Effect_inserted) := ⟨rfl, rfl, rfl, by decide +kernel, rfl, by decide +kernel, by decide +kernel⟩
theorem Hd.b_Effect_inserted {P : Program} {w : World} {K : PySem.W.Frag} {mg : Str → Option Value} {base : Heap} (Y : Hd P K mg base) (cdv : Value) (A : Around) (outer : List PySem.Env) (s : Shared) (H : Hp) (E : XK) (a : Addr) (hr : DL.Room 0 (A.deeper (envOfC "Effect.inserted" (defScope s_Effect_inserted) s.heap.objs.size a cdv))) :
    DB (cxOf (L2.CX P w) P w K mg base ["self"] "Effect.inserted" (defScope s_Effect_inserted) a cdv A outer s H E) (fun c d _ H => E c d H) (defBody s_Effect_inserted) c_Effect_inserted :=
  (db_one (ds_ret (de_ix (de_fld Y.cls_Effect Y.noat_Effect_own_parts (de_var 0)) de_int)))
theorem Hd.ok_Effect_inserted {P : Program} {w : World} {K : PySem.W.Frag} {mg : Str → Option Value} {base : Heap} (Y : Hd P K mg base) : PrpD P w K mg base 1 "Effect" "inserted" F_Effect_inserted :=
  by obtain ⟨fd_Effect_inserted, D_Effect_inserted⟩ := Y.says.def_ 34 (d := d_Effect_inserted) rfl; exact ⟨Y.cls_Effect, _, _, fd_Effect_inserted, ["self"], tProp_ok (Y.says.fact 69 (f := (tProp "Effect" "inserted")) rfl), fn_ok D_Effect_inserted sc_Effect_inserted fun cdv A outer s H E hr => Y.b_Effect_inserted cdv A outer s H E _ hr, D_Effect_inserted.bindsN fun _ _ _ _ _ _ us hl => match us, hl with | [_], _ => rfl⟩
theorem sc_Effect_moved : FnScope ["self", "number"] ["self", "number"] (defScope s_Effect_moved) := ⟨rfl, rfl, rfl, by decide +kernel, rfl, by decide +kernel, by decide +kernel⟩
theorem Hd.b_Effect_moved {P : Program} {w : World} {K : PySem.W.Frag} {mg : Str → Option Value} {base : Heap} (Y : Hd P K mg base) (cdv : Value) (A : Around) (outer : List PySem.Env) (s : Shared) (H : Hp) (E : XK) (a : Addr) (hr : DL.Room 5 (A.deeper (envOfC "Effect.moved" (defScope s_Effect_moved) s.heap.objs.size a cdv))) :
    DB (cxOf (L2.CX P w) P w K mg base ["self", "number"] "Effect.moved" (defScope s_Effect_moved) a cdv A outer s H E) (fun c d _ H => E c d H) (defBody s_Effect_moved) c_Effect_moved :=
  (db_cons (ds_expr (by exact (de_cal (Y.ok_bags_check_number (P := P) (w := w)) hr (by decide) rfl (takes_of rfl rfl rfl rfl) (da_cons (de_var 1) da_nil))))
    (db_one (ds_ret (by exact (de_mak (Y.mk_Effect_init (P := P) (w := w)) hr (by decide) rfl (takes_of rfl rfl rfl rfl) (da_cons (by exact (de_cal (Y.ok_effects_move_bag (P := P) (w := w)) hr (by decide) rfl (takes_of rfl rfl rfl rfl) (da_cons (de_prp (Y.ok_Effect_inserted (P := P) (w := w)) hr (by decide) takes0 (de_var 0)) (da_cons (de_var 1) da_nil)))) (da_cons (de_prp (Y.ok_Effect_removals (P := P) (w := w)) hr (by decide) takes0 (de_var 0)) (da_cons (by exact (de_cal (Y.ok_effects_move_bag (P := P) (w := w)) hr (by decide) rfl (takes_of rfl rfl rfl rfl) (da_cons (de_prp (Y.ok_Effect_survivors (P := P) (w := w)) hr (by decide) takes0 (de_var 0)) (da_cons (de_var 1) da_nil)))) da_nil))))))))
theorem Hd.ok_Effect_moved {P : Program} {w : World} {K : PySem.W.Frag} {mg : Str → Option Value} {base : Heap} (Y : Hd P K mg base) : MetD P w K mg base 6 "Effect" "moved" 2 F_Effect_moved :=
  by obtain ⟨fd_Effect_moved, D_Effect_moved⟩ := Y.says.def_ 35 (d := d_Effect_moved) rfl; exact ⟨Y.cls_Effect, _, fd_Effect_moved, ["self", "number"], rfl, tMeth_ok (Y.says.fact 64 (f := (tMeth "Effect" "moved")) rfl), fn_ok D_Effect_moved sc_Effect_moved fun cdv A outer s H E hr => Y.b_Effect_moved cdv A outer s H E _ hr, D_Effect_moved.bindsN fun _ _ _ _ _ _ us hl => match us, hl with | [_, _], _ => rfl⟩
theorem sc_q_outcome_v6 : FnScope ["_law_door", "_law_one", "_law_two", "_law_three", "e"] ["_law_door", "_law_one", "_law_two", "_law_three"] (defScope s_q_outcome_v6) := ⟨rfl, rfl, rfl, by decide +kernel, rfl, by decide +kernel, by decide +kernel⟩
theorem Hd.b_q_outcome_v6 {P : Program} {w : World} {K : PySem.W.Frag} {mg : Str → Option Value} {base : Heap} (Y : Hd P K mg base) (cdv : Value) (A : Around) (outer : List PySem.Env) (s : Shared) (H : Hp) (E : XK) (a : Addr) (hr : DL.Room 35 (A.deeper (envOfC "_law_outcome" (defScope s_q_outcome_v6) s.heap.objs.size a cdv))) :
    DB (cxOf (L2.CX P w) P w K mg base ["_law_door", "_law_one", "_law_two", "_law_three", "e"] "_law_outcome" (defScope s_q_outcome_v6) a cdv A outer s H E) (fun c d _ H => E c d H) (defBody s_q_outcome_v6) c_q_outcome_v6 :=
  (db_cons (ds_try sc_q_outcome_v6.nd (takes_of rfl rfl rfl rfl) (tExm_ok Y.exm_InvalidBag_InvalidCount_InvalidNumber_InvalidProgram_EmptyHeap rfl) (fun W pn xe tk => (db_one (ds_if (dt_cmp (opd_eq hr.units) (de_var 0) de_int (nomark _)) (db_one (ds_expr (by exact (de_mak (Y.mk_Effect_init (P := P) (w := w)) hr (by decide) rfl tk (da_cons (de_var 1) (da_cons (de_var 2) (da_cons (de_var 3) da_nil)))))))
    (db_one (ds_if (dt_cmp (opd_eq hr.units) (de_var 0) de_int (nomark _)) (db_one (ds_expr (by exact (de_cmt (pl := _) (Y.ok_Effect_of (P := P) (w := w)) hr (by decide) rfl tk (da_cons (de_var 1) da_nil)))))
    (db_one (ds_if (dt_cmp (opd_eq hr.units) (de_var 0) de_int (nomark _)) (db_one (ds_expr (by exact (de_met (pl := _) (Y.ok_Effect_apply (P := P) (w := w)) hr (by decide) tk (de_var 1) (da_cons (de_var 2) da_nil)))))
    (db_one (ds_if (dt_cmp (opd_eq hr.units) (de_var 0) de_int (nomark _)) (db_one (ds_expr (by exact (de_met (pl := _) (Y.ok_Effect_removed (P := P) (w := w)) hr (by decide) tk (de_var 1) (da_cons (de_var 2) da_nil)))))
    (db_one (ds_expr (by exact (de_met (pl := _) (Y.ok_Effect_moved (P := P) (w := w)) hr (by decide) tk (de_var 1) (da_cons (de_var 2) da_nil)))))))))))))) (cl_as Y.glo_InvalidBag (sui_ret (dx_lst (dax_cons (dx_of fun a pn => de_str) (dax_cons (by exact (dx_callB (sc_reprD hr) rfl (Y.free_repr) rfl (dax_cons (dx_rd Y.xf_InvalidBag_value) dax_nil))) dax_nil)))) (cl_as Y.glo_InvalidCount (sui_ret (dx_lst (dax_cons (dx_of fun a pn => de_str) (dax_cons (by exact (dx_callB (sc_reprD hr) rfl (Y.free_repr) rfl (dax_cons (dx_rd Y.xf_InvalidCount_value) dax_nil))) dax_nil)))) (cl_as Y.glo_InvalidNumber (sui_ret (dx_lst (dax_cons (dx_of fun a pn => de_str) (dax_cons (by exact (dx_callB (sc_reprD hr) rfl (Y.free_repr) rfl (dax_cons (dx_rd Y.xf_InvalidNumber_value) dax_nil))) dax_nil)))) (cl_as Y.glo_InvalidProgram (sui_ret (dx_lst (dax_cons (dx_of fun a pn => de_str) (dax_cons (dx_rd Y.xf_InvalidProgram_path) dax_nil)))) (cl_as Y.glo_EmptyHeap (sui_ret (dx_lst (dax_cons (dx_of fun a pn => de_str) (dax_cons (dx_rd Y.xf_EmptyHeap_index) dax_nil)))) cl_nil))))))
    (db_one (ds_ret de_non)))
theorem Hd.ok_q_outcome_v6 {P : Program} {w : World} {K : PySem.W.Frag} {mg : Str → Option Value} {base : Heap} (Y : Hd P K mg base) : CalD P w K mg base 36 "_law_outcome" 4 F_q_outcome_v6 :=
  by obtain ⟨fd_q_outcome_v6, D_q_outcome_v6⟩ := Y.says.def_ 36 (d := d_q_outcome_v6) rfl; exact ⟨Y.glo__law_outcome, D_q_outcome_v6.kp, fd_q_outcome_v6, ["_law_door", "_law_one", "_law_two", "_law_three"], rfl, fn_ok D_q_outcome_v6 sc_q_outcome_v6 fun cdv A outer s H E hr => Y.b_q_outcome_v6 cdv A outer s H E _ hr, D_q_outcome_v6.bindsN fun _ _ _ _ _ _ us hl => match us, hl with | [_, _, _, _], _ => rfl⟩
theorem sc_Effect_is_valid : FnScope ["inserted", "removals", "survivors"] ["inserted", "removals", "survivors"] (defScope s_Effect_is_valid) := ⟨rfl, rfl, rfl, by decide +kernel, rfl, by decide +kernel, by decide +kernel⟩
theorem Hd.b_Effect_is_valid {P : Program} {w : World} {K : PySem.W.Frag} {mg : Str → Option Value} {base : Heap} (Y : Hd P K mg base) (cdv : Value) (A : Around) (outer : List PySem.Env) (s : Shared) (H : Hp) (E : XK) (a : Addr) (hr : DL.Room 3 (A.deeper (envOfC "Effect.is_valid" (defScope s_Effect_is_valid) s.heap.objs.size a cdv))) :
    DB (cxOf (L2.CX P w) P w K mg base ["inserted", "removals", "survivors"] "Effect.is_valid" (defScope s_Effect_is_valid) a cdv A outer s H E) (fun c d _ H => E c d H) (defBody s_Effect_is_valid) c_Effect_is_valid :=
  (db_cons (ds_if (dw_or (dt_not (dt_val (by exact (de_cal (Y.ok_bags_is_bag (P := P) (w := w)) hr (by decide) rfl (takes_of rfl rfl rfl rfl) (da_cons (de_var 0) da_nil))))) (dw_or (dt_not (dt_val (by exact (de_cal (Y.ok_bags_is_count (P := P) (w := w)) hr (by decide) rfl (takes_of rfl rfl rfl rfl) (da_cons (de_var 1) da_nil))))) (dw_or1 (dt_not (dt_val (by exact (de_cal (Y.ok_bags_is_bag (P := P) (w := w)) hr (by decide) rfl (takes_of rfl rfl rfl rfl) (da_cons (de_var 2) da_nil)))))))).pt (db_one (ds_ret de_bl))
    db_nil)
    (db_one (ds_ret (de_cmp opd_is (by exact (de_cal (Y.ok_effects_find_fault (P := P) (w := w)) hr (by decide) rfl (takes_of rfl rfl rfl rfl) (da_cons (de_var 0) (da_cons (de_var 1) (da_cons (de_var 2) da_nil))))) de_non (nomark _)))))
theorem Hd.ok_Effect_is_valid {P : Program} {w : World} {K : PySem.W.Frag} {mg : Str → Option Value} {base : Heap} (Y : Hd P K mg base) : SmtD P w K mg base 4 "Effect" "is_valid" 3 F_Effect_is_valid :=
  by obtain ⟨fd_Effect_is_valid, D_Effect_is_valid⟩ := Y.says.def_ 37 (d := d_Effect_is_valid) rfl; exact ⟨Y.glo_Effect, tWrap_ok (Y.says.fact 77 (f := (tWrap "Effect" "is_valid" "staticmethod" "staticmethod.__get__")) rfl), fd_Effect_is_valid, ["inserted", "removals", "survivors"], rfl, fn_ok D_Effect_is_valid sc_Effect_is_valid fun cdv A outer s H E hr => Y.b_Effect_is_valid cdv A outer s H E _ hr, D_Effect_is_valid.bindsN fun _ _ _ _ _ _ us hl => match us, hl with | [_, _, _], _ => rfl⟩
def c_law_1 : Sx :=
  (sIf (eOp gNe (eFn F_q_outcome_v6 (aCons (eVar 5) (aCons (eVar 3) (aCons (eVar 4) (aCons (eC .non) aNil))))) (eLst (aCons (eC (.str "bag")) (aCons (eCall nReprD (aCons (eVar 4) aNil)) aNil)))) (sRet (eC (.bl false)))
    sNil)
def c_law_2 : Sx :=
  (sFor [1, 2, 5] (iA (eTup (aCons (eC (.int 2)) (aCons (eC (.int 3)) aNil)))) (gN 5) c_law_1)
def c_law_3 : Sx :=
  (sSeq (sIf (eOr (eOp gIsNot (eFn F_Effect_is_valid (aCons (eVar 4) (aCons (eC (.int 5)) (aCons (eTup aNil) aNil)))) (eC (.bl false))) (eOp gIsNot (eFn F_Effect_is_valid (aCons (eTup aNil) (aCons (eC (.int 5)) (aCons (eVar 4) aNil)))) (eC (.bl false)))) (sRet (eC (.bl false)))
    sNil)
    c_law_2)
def c_law_4 : Sx :=
  (sSeq (sIf (eOp gNe (eFn F_q_outcome_v6 (aCons (eC (.int 0)) (aCons (eProp "Effect" F_Effect_inserted (eVar 3)) (aCons (eOp gPowI (eC (.int 10)) (eC (.int 60))) (aCons (eVar 4) aNil))))) (eLst (aCons (eC (.str "bag")) (aCons (eCall nReprD (aCons (eVar 4) aNil)) aNil)))) (sRet (eC (.bl false)))
    sNil)
    c_law_3)
def c_law_5 : Sx :=
  (sSeq (sIf (eOp gNe (eFn F_q_outcome_v6 (aCons (eC (.int 0)) (aCons (eVar 4) (aCons (eC .non) (aCons (eC .non) aNil))))) (eLst (aCons (eC (.str "bag")) (aCons (eCall nReprD (aCons (eVar 4) aNil)) aNil)))) (sRet (eC (.bl false)))
    sNil)
    c_law_4)
def c_law_6 : Sx :=
  (sIf (eAnd (eOp gNe (eVar 4) (eNeg (eC (.int 1)))) (eOp gNe (eFn F_q_outcome_v6 (aCons (eC (.int 4)) (aCons (eVar 3) (aCons (eVar 4) (aCons (eC .non) aNil))))) (eLst (aCons (eC (.str "number")) (aCons (eCall nReprD (aCons (eVar 4) aNil)) aNil))))) (sRet (eC (.bl false)))
    sNil)
def c_law_7 : Sx :=
  (sSeq (sIf (eOp gIsNot (eFn F_Effect_is_valid (aCons (eTup aNil) (aCons (eVar 4) (aCons (eTup aNil) aNil)))) (eC (.bl false))) (sRet (eC (.bl false)))
    sNil)
    c_law_6)
def c_law_8 : Sx :=
  (sSeq (sIf (eOp gNe (eFn F_q_outcome_v6 (aCons (eC (.int 0)) (aCons (eProp "Effect" F_Effect_inserted (eVar 3)) (aCons (eVar 4) (aCons (eC .non) aNil))))) (eLst (aCons (eC (.str "count")) (aCons (eCall nReprD (aCons (eVar 4) aNil)) aNil)))) (sRet (eC (.bl false)))
    sNil)
    c_law_7)
def c_law_9 : Sx :=
  (sIf (eOp gNe (eFn F_q_outcome_v6 (aCons (eC (.int 1)) (aCons (eVar 4) (aCons (eC .non) (aCons (eC .non) aNil))))) (eLst (aCons (eC (.str "program")) (aCons (eTup aNil) aNil)))) (sRet (eC (.bl false)))
    sNil)
def c_law_10 : Sx :=
  (sIf (eOp gIsNot (eFn F_q_outcome_v6 (aCons (eVar 5) (aCons (eVar 3) (aCons (eTup (aCons (eTup (aCons (eC (.int 1)) (aCons (eProp "Effect" F_Effect_needed (eVar 3)) aNil))) aNil)) (aCons (eC .non) aNil))))) (eC .non)) (sRet (eC (.bl false)))
    sNil)
def c_law_11 : Sx :=
  (sSeq (sIf (eOp gNe (eFn F_q_outcome_v6 (aCons (eVar 5) (aCons (eVar 3) (aCons (eSl (eTup (aCons (eTup (aCons (eC (.int 1)) (aCons (eOp gSubI (eProp "Effect" F_Effect_needed (eVar 3)) (eC (.int 1))) aNil))) aNil)) oNone (oSome (eOp gSubI (eProp "Effect" F_Effect_needed (eVar 3)) (eC (.int 1))))) (aCons (eC .non) aNil))))) (eLst (aCons (eC (.str "empty")) (aCons (eC .non) aNil)))) (sRet (eC (.bl false)))
    sNil)
    c_law_10)
def c_law_12 : Sx :=
  (sIf (eOp gGt (eProp "Effect" F_Effect_needed (eVar 3)) (eC (.int 0))) (sFor [1, 2, 4, 5] (iA (eTup (aCons (eC (.int 2)) (aCons (eC (.int 3)) aNil)))) (gN 5) c_law_11)
    sNil)
def c_law_13 : Sx :=
  (sSeq (sIf (eOp gNe (eFn F_q_outcome_v6 (aCons (eC (.int 1)) (aCons (eTup (aCons (eTup (aCons (eC (.str "remove")) (aCons (eC (.int 1)) aNil))) (aCons (eTup (aCons (eC (.str "repeat")) (aCons (eC (.int 2)) (aCons (eTup (aCons (eTup (aCons (eC (.str "insert")) (aCons (eC (.int 1)) aNil))) aNil)) aNil)))) aNil))) (aCons (eC .non) (aCons (eC .non) aNil))))) (eLst (aCons (eC (.str "program")) (aCons (eTup (aCons (eC (.int 1)) (aCons (eC (.int 0)) aNil))) aNil)))) (sRet (eC (.bl false)))
    sNil)
    c_law_12)
def c_law_14 : Sx :=
  (sSeq (sFor [1, 2, 4, 5] (iA (eLst (aCons (eC .non) (aCons (eLst (aCons (eTup (aCons (eC (.str "remove")) (aCons (eC (.int 1)) aNil))) aNil)) (aCons (eC (.str "x")) (aCons (eC (.int 5)) aNil)))))) (gN 4) c_law_9)
    c_law_13)
def c_law_15 : Sx :=
  (sSeq (sFor [1, 2, 4, 5] (iA (eLst (aCons (eC .non) (aCons (eNeg (eC (.int 1))) (aCons (eC (.bl true)) (aCons (eC (.str "1")) (aCons (eTup (aCons (eC (.int 1)) aNil)) (aCons (eLst aNil) aNil)))))))) (gN 4) c_law_8)
    c_law_14)
def c_law_16 : Sx :=
  (sSeq (sFor [1, 2, 4, 5] (iA (eLst (aCons (eC .non) (aCons (eC (.int 5)) (aCons (eLst (aCons (eTup (aCons (eC (.int 1)) (aCons (eC (.int 1)) aNil))) aNil)) (aCons (eTup (aCons (eTup (aCons (eC (.int 1)) (aCons (eC (.int 0)) aNil))) aNil)) (aCons (eTup (aCons (eTup (aCons (eC (.bl true)) (aCons (eC (.int 1)) aNil))) aNil)) (aCons (eTup (aCons (eTup (aCons (eC (.int 2)) (aCons (eC (.int 1)) aNil))) (aCons (eTup (aCons (eC (.int 1)) (aCons (eC (.int 1)) aNil))) aNil))) (aCons (eC (.str "")) (aCons eDv aNil)))))))))) (gN 4) c_law_5)
    c_law_15)
def c_law_17 : Sx :=
  (sSeq (sAsg (eFn F_q_great_effect (aCons (eVar 2) aNil)) (gN 3))
    c_law_16)
def c_law_18 : Sx :=
  (sSeq (sAsg (eFnN F_q_pool (aCons (eVar 0) (aCons (eVar 1) aNil))) (gN 2))
    c_law_17)
def c_law_19 : Sx :=
  (sRet (eC (.bl true)))
def c_law : Sx :=
  (sSeq (sFor [1, 2, 3, 4, 5] (iR1 (eCall nMax2 (aCons (eC (.int 1)) (aCons (eCall nMin2 (aCons (eCall nLen (aCons (eVar 0) aNil)) (aCons (eC (.int 6)) aNil))) aNil)))) (gN 1) c_law_18)
    c_law_19)
def F_law : Fn := defn 1 6 c_law
theorem sc_law : FnScope ["_law_script", "_law_k", "_law_pool_here", "_law_effect", "_law_thing", "_law_door"] ["_law_script"] (defScope s_law) := ⟨rfl, rfl, rfl, by decide +kernel, rfl, by decide +kernel, by decide +kernel⟩
theorem Hd.b_law {P : Program} {w : World} {K : PySem.W.Frag} {mg : Str → Option Value} {base : Heap} (Y : Hd P K mg base) (cdv : Value) (A : Around) (outer : List PySem.Env) (s : Shared) (H : Hp) (E : XK) (a : Addr) (hr : DL.Room 36 (A.deeper (envOfC "law" (defScope s_law) s.heap.objs.size a cdv))) :
    DB (cxOf (L2.CX P w) P w K mg base ["_law_script", "_law_k", "_law_pool_here", "_law_effect", "_law_thing", "_law_door"] "law" (defScope s_law) a cdv A outer s H E) (fun c d _ H => E c d H) (defBody s_law) c_law :=
  (db_cons (ds_for [1, 2, 3, 4, 5] (passes_of rfl) rfl (di_range1 rfl (Y.free_range) (by exact (de_callB (cd_max2 rfl) rfl (Y.free_max) rfl (da_cons de_int (da_cons (by exact (de_callB (cd_min2 rfl) rfl (Y.free_min) rfl (da_cons (by exact (de_callB cd_len rfl (Y.free_len) rfl (da_cons (de_var 0) da_nil))) (da_cons de_int da_nil)))) da_nil))))) (dg_name 1 sc_law.nd) (db_cons (ds_set 2 sc_law.nd (de_calN (Y.ok_q_pool (P := P) (w := w)) hr (by decide) rfl (takes_of rfl rfl rfl rfl) (da_cons (de_var 0) (da_cons (de_var 1) da_nil))))
    (db_cons (ds_set 3 sc_law.nd (by exact (de_cal (Y.ok_q_great_effect (P := P) (w := w)) hr (by decide) rfl (takes_of rfl rfl rfl rfl) (da_cons (de_var 2) da_nil))))
    (db_cons (ds_for [1, 2, 4, 5] (passes_of rfl) rfl (di_any (de_lst (da_cons de_non (da_cons de_int (da_cons (de_lst (da_cons (de_tup (da_cons de_int (da_cons de_int da_nil))) da_nil)) (da_cons (de_tup (da_cons (de_tup (da_cons de_int (da_cons de_int da_nil))) da_nil)) (da_cons (de_tup (da_cons (de_tup (da_cons de_bl (da_cons de_int da_nil))) da_nil)) (da_cons (de_tup (da_cons (de_tup (da_cons de_int (da_cons de_int da_nil))) (da_cons (de_tup (da_cons de_int (da_cons de_int da_nil))) da_nil))) (da_cons de_str (da_cons de_dv da_nil)))))))))) (dg_name 4 sc_law.nd) (db_cons (ds_if (dt_cmp (opd_ne hr.units) (by exact (de_cal (Y.ok_q_outcome_v6 (P := P) (w := w)) hr (by decide) rfl (takes_of rfl rfl rfl rfl) (da_cons de_int (da_cons (de_var 4) (da_cons de_non (da_cons de_non da_nil)))))) (de_lst (da_cons de_str (da_cons (by exact (de_callB (cd_reprD hr) rfl (Y.free_repr) rfl (da_cons (de_var 4) da_nil))) da_nil))) (nomark _)) (db_one (ds_ret de_bl))
    db_nil)
    (db_cons (ds_if (dt_cmp (opd_ne hr.units) (by exact (de_cal (Y.ok_q_outcome_v6 (P := P) (w := w)) hr (by decide) rfl (takes_of rfl rfl rfl rfl) (da_cons de_int (da_cons (de_prp (Y.ok_Effect_inserted (P := P) (w := w)) hr (by decide) takes0 (de_var 3)) (da_cons (de_op opd_powI de_int de_int) (da_cons (de_var 4) da_nil)))))) (de_lst (da_cons de_str (da_cons (by exact (de_callB (cd_reprD hr) rfl (Y.free_repr) rfl (da_cons (de_var 4) da_nil))) da_nil))) (nomark _)) (db_one (ds_ret de_bl))
    db_nil)
    (db_cons (ds_if (dw_or (dt_cmp opd_isnot (by exact (de_smt (pl := _) (Y.ok_Effect_is_valid (P := P) (w := w)) hr (by decide) rfl (takes_of rfl rfl rfl rfl) (da_cons (de_var 4) (da_cons de_int (da_cons (de_tup da_nil) da_nil))))) de_bl (nomark _)) (dw_or1 (dt_cmp opd_isnot (by exact (de_smt (pl := _) (Y.ok_Effect_is_valid (P := P) (w := w)) hr (by decide) rfl (takes_of rfl rfl rfl rfl) (da_cons (de_tup da_nil) (da_cons de_int (da_cons (de_var 4) da_nil))))) de_bl (nomark _)))).pt (db_one (ds_ret de_bl))
    db_nil)
    (db_one (ds_for [1, 2, 5] (passes_of rfl) rfl (di_any (de_tup (da_cons de_int (da_cons de_int da_nil)))) (dg_name 5 sc_law.nd) (db_one (ds_if (dt_cmp (opd_ne hr.units) (by exact (de_cal (Y.ok_q_outcome_v6 (P := P) (w := w)) hr (by decide) rfl (takes_of rfl rfl rfl rfl) (da_cons (de_var 5) (da_cons (de_var 3) (da_cons (de_var 4) (da_cons de_non da_nil)))))) (de_lst (da_cons de_str (da_cons (by exact (de_callB (cd_reprD hr) rfl (Y.free_repr) rfl (da_cons (de_var 4) da_nil))) da_nil))) (nomark _)) (db_one (ds_ret de_bl))
    db_nil))))))))
    (db_cons (ds_for [1, 2, 4, 5] (passes_of rfl) rfl (di_any (de_lst (da_cons de_non (da_cons (de_neg de_int) (da_cons de_bl (da_cons de_str (da_cons (de_tup (da_cons de_int da_nil)) (da_cons (de_lst da_nil) da_nil)))))))) (dg_name 4 sc_law.nd) (db_cons (ds_if (dt_cmp (opd_ne hr.units) (by exact (de_cal (Y.ok_q_outcome_v6 (P := P) (w := w)) hr (by decide) rfl (takes_of rfl rfl rfl rfl) (da_cons de_int (da_cons (de_prp (Y.ok_Effect_inserted (P := P) (w := w)) hr (by decide) takes0 (de_var 3)) (da_cons (de_var 4) (da_cons de_non da_nil)))))) (de_lst (da_cons de_str (da_cons (by exact (de_callB (cd_reprD hr) rfl (Y.free_repr) rfl (da_cons (de_var 4) da_nil))) da_nil))) (nomark _)) (db_one (ds_ret de_bl))
    db_nil)
    (db_cons (ds_if (dt_cmp opd_isnot (by exact (de_smt (pl := _) (Y.ok_Effect_is_valid (P := P) (w := w)) hr (by decide) rfl (takes_of rfl rfl rfl rfl) (da_cons (de_tup da_nil) (da_cons (de_var 4) (da_cons (de_tup da_nil) da_nil))))) de_bl (nomark _)) (db_one (ds_ret de_bl))
    db_nil)
    (db_one (ds_if (dw_and (dt_cmp (opd_ne hr.units) (de_var 4) (de_neg de_int) (nomark _)) (dw_and1 (dt_cmp (opd_ne hr.units) (by exact (de_cal (Y.ok_q_outcome_v6 (P := P) (w := w)) hr (by decide) rfl (takes_of rfl rfl rfl rfl) (da_cons de_int (da_cons (de_var 3) (da_cons (de_var 4) (da_cons de_non da_nil)))))) (de_lst (da_cons de_str (da_cons (by exact (de_callB (cd_reprD hr) rfl (Y.free_repr) rfl (da_cons (de_var 4) da_nil))) da_nil))) (nomark _)))).pt (db_one (ds_ret de_bl))
    db_nil)))))
    (db_cons (ds_for [1, 2, 4, 5] (passes_of rfl) rfl (di_any (de_lst (da_cons de_non (da_cons (de_lst (da_cons (de_tup (da_cons de_str (da_cons de_int da_nil))) da_nil)) (da_cons de_str (da_cons de_int da_nil)))))) (dg_name 4 sc_law.nd) (db_one (ds_if (dt_cmp (opd_ne hr.units) (by exact (de_cal (Y.ok_q_outcome_v6 (P := P) (w := w)) hr (by decide) rfl (takes_of rfl rfl rfl rfl) (da_cons de_int (da_cons (de_var 4) (da_cons de_non (da_cons de_non da_nil)))))) (de_lst (da_cons de_str (da_cons (de_tup da_nil) da_nil))) (nomark _)) (db_one (ds_ret de_bl))
    db_nil)))
    (db_cons (ds_if (dt_cmp (opd_ne hr.units) (by exact (de_cal (Y.ok_q_outcome_v6 (P := P) (w := w)) hr (by decide) rfl (takes_of rfl rfl rfl rfl) (da_cons de_int (da_cons (de_tup (da_cons (de_tup (da_cons de_str (da_cons de_int da_nil))) (da_cons (de_tup (da_cons de_str (da_cons de_int (da_cons (de_tup (da_cons (de_tup (da_cons de_str (da_cons de_int da_nil))) da_nil)) da_nil)))) da_nil))) (da_cons de_non (da_cons de_non da_nil)))))) (de_lst (da_cons de_str (da_cons (de_tup (da_cons de_int (da_cons de_int da_nil))) da_nil))) (nomark _)) (db_one (ds_ret de_bl))
    db_nil)
    (db_one (ds_if (dt_cmp opd_gt (de_prp (Y.ok_Effect_needed (P := P) (w := w)) hr (by decide) takes0 (de_var 3)) de_int (nomark _)) (db_one (ds_for [1, 2, 4, 5] (passes_of rfl) rfl (di_any (de_tup (da_cons de_int (da_cons de_int da_nil)))) (dg_name 5 sc_law.nd) (db_cons (ds_if (dt_cmp (opd_ne hr.units) (by exact (de_cal (Y.ok_q_outcome_v6 (P := P) (w := w)) hr (by decide) rfl (takes_of rfl rfl rfl rfl) (da_cons (de_var 5) (da_cons (de_var 3) (da_cons (de_sl (de_tup (da_cons (de_tup (da_cons de_int (da_cons (de_op opd_subI (de_prp (Y.ok_Effect_needed (P := P) (w := w)) hr (by decide) takes0 (de_var 3)) de_int) da_nil))) da_nil)) do_none (do_some (de_op opd_subI (de_prp (Y.ok_Effect_needed (P := P) (w := w)) hr (by decide) takes0 (de_var 3)) de_int))) (da_cons de_non da_nil)))))) (de_lst (da_cons de_str (da_cons de_non da_nil))) (nomark _)) (db_one (ds_ret de_bl))
    db_nil)
    (db_one (ds_if (dt_cmp opd_isnot (by exact (de_cal (Y.ok_q_outcome_v6 (P := P) (w := w)) hr (by decide) rfl (takes_of rfl rfl rfl rfl) (da_cons (de_var 5) (da_cons (de_var 3) (da_cons (de_tup (da_cons (de_tup (da_cons de_int (da_cons (de_prp (Y.ok_Effect_needed (P := P) (w := w)) hr (by decide) takes0 (de_var 3)) da_nil))) da_nil)) (da_cons de_non da_nil)))))) de_non (nomark _)) (db_one (ds_ret de_bl))
    db_nil)))))
    db_nil)))))))))
    (db_one (ds_ret de_bl)))
end L_k19

namespace DL
open PySem L2

/-! ### what a piece of code ends in, by what is wished for -/
def wO (r : Out) (P : D → Mem → Prop) : Prop := match r with
  | .ok d M => P d M
  | _ => False
def wL (r : OutL) (P : List D → Mem → Prop) : Prop := match r with
  | .ok d M => P d M
  | _ => False
def wI (r : OutI) (P : List D → (Mem → Bool) → Mem → Prop) : Prop := match r with
  | .ok d c M => P d c M
  | _ => False
/-- one of two, by a truth value -/
def ifB (x : D) (A B : Prop) : Prop := match x with
  | .bl true => A
  | .bl false => B
  | _ => False
theorem ifB_bl {b : Bool} {A B : Prop} : ifB (.bl b) A B = if b = true then A else B := by cases b <;> rfl
def notB (x : D) (k : Bool → Prop) : Prop := match x with
  | .bl b => k !b
  | _ => False
theorem notB_bl {b : Bool} {k : Bool → Prop} : notB (.bl b) k = k !b := rfl
structure Wi where
  nx : Env → Mem → Prop
  rt : D → Mem → Prop := fun _ _ => False
  bk : Env → Mem → Prop := fun _ _ => False
  ct : Env → Mem → Prop := fun _ _ => False
def wS (r : OutS) (P : Wi) : Prop := match r with
  | .nx e M => P.nx e M
  | .rt d M => P.rt d M
  | .bk e M => P.bk e M
  | .ct e M => P.ct e M
  | _ => False
section
variable {r : Out} {fa fb fc ft : Ev} {fl : EvL} {env : Env} {M : Mem} {P : D → Mem → Prop} {PL : List D → Mem → Prop} {W : Wi} {g g' : Op2} {G : Tg} {s s1 s2 : Sx} {n : OpN} {F : Fn}
theorem wO_ok {d : D} : wO (.ok d M) P = P d M := rfl
theorem wO_bind {k : D → Mem → Out} : wO (r.bind k) P = wO r fun d M => wO (k d M) P := by cases r <;> rfl
theorem wO_bindL {r : OutL} {k : List D → Mem → Out} : wO (r.bind k) P = wL r fun d M => wO (k d M) P := by cases r <;> rfl
theorem wL_bind {k : D → Mem → OutL} : wL (r.bindL k) PL = wO r fun d M => wL (k d M) PL := by cases r <;> rfl
theorem wS_bind {k : D → Mem → OutS} : wS (r.bindS env k) W = wO r fun d M => wS (k d M) W := by cases r <;> rfl
theorem wS_bindL {r : OutL} {k : List D → Mem → OutS} : wS (r.bindS env k) W = wL r fun d M => wS (k d M) W := by cases r <;> rfl
theorem w_var {i : Nat} {d : D} (h : env[i]? = some (some d)) : wO (eVar i env M) P = P d M := by unfold eVar; rw [h]; rfl
theorem w_var0 {e0 : D} {env : Env} : wO (eVar 0 (some e0 :: env) M) P = P e0 M := rfl
theorem w_varS {i : Nat} {o : Option D} {env : Env} : wO (eVar (i + 1) (o :: env) M) P = wO (eVar i env M) P := by
  unfold eVar
  rw [List.getElem?_cons_succ]
theorem w_c {d : D} : wO (eC d env M) P = P d M := rfl
theorem w_nil : wL (aNil env M) PL = PL [] M := rfl
theorem w_cons {h : Ev} : wL (aCons h fl env M) PL = wO (h env M) fun d M => wL (fl env M) fun ds M => PL (d :: ds) M := by unfold aCons; rw [wL_bind]; congr; funext d M; cases fl env M <;> rfl
theorem w_tup : wO (eTup fl env M) P = wL (fl env M) fun ds M => P (.tup ds) M := by unfold eTup; rw [wO_bindL]; rfl
theorem w_lst : wO (eLst fl env M) P = wL (fl env M) fun ds M => P (.lst ds) M := by unfold eLst; rw [wO_bindL]; rfl
theorem w_new : wO (eNew fl env M) P = wL (fl env M) fun ds M => P (.ref M.length) (M ++ [.lst ds]) := by unfold eNew; rw [wO_bindL]; rfl
theorem w_newD : wO (eNewD env M) P = P (.ref M.length) (M ++ [.dic []]) := rfl
theorem w_op : wO (eOp g fa fb env M) P = wO (fa env M) fun x M => wO (fb env M) fun y M => wO (g x y M) P := by unfold eOp; rw [wO_bind]; congr; funext d M; rw [wO_bind]
theorem w_gI {h : Int → Int → D} {i j : Int} : wO (gI h (.int i) (.int j) M) P = P (h i j) M := rfl
theorem w_gInt {c : Int → Int → Bool} {h : Int → Int → D} {i j : Int} : wO (gInt c h (.int i) (.int j) M) P = (c i j = true ∧ P (h i j) M) := by
  unfold gInt
  by_cases e : c i j = true
  · simp [e, wO]
  · simp [e, wO]
theorem w_add {i j : Int} : wO (gAdd (.int i) (.int j) M) P = P (.int (i + j)) M := rfl
theorem w_mul {i j : Int} (h : cMul i j = true) : wO (gMul (.int i) (.int j) M) P = P (.int (i * j)) M := by
  unfold gMul gOr gMulI gInt
  simp [h, wO, Out.or]
theorem w_chain : wO (eChain g g' fa fb fc env M) P = wO (fa env M) fun x M => wO (fb env M) fun y M => wO (g x y M) fun z M => ifB z (wO (fc env M) fun u M => wO (g' y u M) P) (P (.bl false) M) := by
  unfold eChain
  rw [wO_bind]
  congr
  funext x M
  rw [wO_bind]
  congr
  funext y M
  rw [wO_bind]
  congr
  funext z M
  cases z with
  | bl b =>
    cases b with
    | true => simp only [wO_bind, ifB]
    | false => rfl
  | _ => rfl
theorem w_not : wO (eNot fa env M) P = wO (fa env M) fun x M => notB x fun b => P (.bl b) M := by
  unfold eNot
  rw [wO_bind]
  congr
  funext d M
  cases d <;> rfl
theorem w_and : wO (eAnd fa fb env M) P = wO (fa env M) fun x M => ifB x (wO (fb env M) P) (P (.bl false) M) := by
  unfold eAnd
  rw [wO_bind]
  congr
  funext d M
  cases d with
  | bl b => cases b <;> rfl
  | _ => rfl
theorem w_or : wO (eOr fa fb env M) P = wO (fa env M) fun x M => ifB x (P (.bl true) M) (wO (fb env M) P) := by
  unfold eOr
  rw [wO_bind]
  congr
  funext d M
  cases d with
  | bl b => cases b <;> rfl
  | _ => rfl
theorem w_if : wO (eIf ft fa fb env M) P = wO (ft env M) fun x M => ifB x (wO (fa env M) P) (wO (fb env M) P) := by
  unfold eIf
  rw [wO_bind]
  congr
  funext d M
  cases d with
  | bl b => cases b <;> rfl
  | _ => rfl
theorem w_call : wO (eCall n fl env M) P = wL (fl env M) fun ds M => wO (n ds M) P := by unfold eCall; rw [wO_bindL]
theorem w_fn : wO (eFn F fl env M) P = wL (fl env M) fun ds M => wO (callF F ds M) P := by unfold eFn; rw [wO_bindL]
theorem w_fnN : wO (eFnN F fl env M) P = wL (fl env M) fun ds M => wO (newF F ds M) P := by unfold eFnN; rw [wO_bindL]
theorem w_make {c : Str} : wO (eMake c F fl env M) P = wL (fl env M) fun ds M => wO (makeF c F ds M) P := by unfold eMake; rw [wO_bindL]
theorem w_seq : wS (sSeq s1 s2 env M) W = wS (s1 env M) { W with nx := fun e M => wS (s2 e M) W } := by unfold sSeq; cases s1 env M <;> rfl
theorem w_snil : wS (sNil env M) W = W.nx env M := rfl
theorem w_asg : wS (sAsg fa G env M) W = wO (fa env M) fun d M => wS (G d env M) W := by unfold sAsg; rw [wS_bind]
theorem w_expr : wS (sExpr fa env M) W = wO (fa env M) fun d M => W.nx env M := by unfold sExpr; rw [wS_bind]; rfl
theorem w_ret : wS (sRet fa env M) W = wO (fa env M) fun d M => W.rt d M := by unfold sRet; rw [wS_bind]; rfl
theorem w_retN : wS (sRetN env M) W = W.rt .non M := rfl
theorem w_brk : wS (sBreak env M) W = W.bk env M := rfl
theorem w_cont : wS (sCont env M) W = W.ct env M := rfl
theorem w_sif : wS (sIf ft s1 s2 env M) W = wO (ft env M) fun x M => ifB x (wS (s1 env M) W) (wS (s2 env M) W) := by
  unfold sIf
  rw [wS_bind]
  congr
  funext d M
  cases d with
  | bl b => cases b <;> rfl
  | _ => rfl
theorem w_gN {i : Nat} {d : D} : wS (gN i d env M) W = W.nx (env.set i (some d)) M := rfl
theorem w_par {i j : Nat} : wS (sPar i j fl env M) W = wL (fl env M) fun ds M => match ds with
  | [a, b] => W.nx ((env.set i (some a)).set j (some b)) M
  | _ => False := by
  unfold sPar
  rw [wS_bindL]
  congr
  funext ds M
  rcases ds with _ | ⟨a, _ | ⟨b, _ | ⟨c, ds⟩⟩⟩ <;> rfl
theorem w_par3 {i j l : Nat} : wS (sPar3 i j l fl env M) W = wL (fl env M) fun ds M => match ds with
  | [a, b, c] => W.nx (((env.set i (some a)).set j (some b)).set l (some c)) M
  | _ => False := by
  unfold sPar3
  rw [wS_bindL]
  congr
  funext ds M
  rcases ds with _ | ⟨a, _ | ⟨b, _ | ⟨c, _ | ⟨d, ds⟩⟩⟩⟩ <;> rfl
theorem w_aug {i : Nat} {d : D} (h : env[i]? = some (some d)) : wS (sAug i g fa env M) W = wO (fa env M) fun y M => wO (g d y M) fun z M => W.nx (env.set i (some z)) M := by
  unfold sAug
  simp only [h]
  rw [wS_bind]
  congr
  funext y M
  rw [wS_bind]
  rfl
theorem w_gsNil : wS (gsNil [] env M) W = W.nx env M := rfl
theorem w_gsCons {gs : TgL} {d : D} {ds : List D} : wS (gsCons G gs (d :: ds) env M) W = wS (G d env M) { nx := fun e M => wS (gs ds e M) W } := by
  unfold gsCons
  simp only
  cases G d env M <;> rfl
theorem wO_mono {r : Out} {P P' : D → Mem → Prop} (h : wO r P) (h1 : ∀ d M, P d M → P' d M) : wO r P' := by
  cases r <;> first | exact h1 _ _ h | exact h
theorem wO_ex {r : Out} {P : D → Mem → Prop} (h : wO r P) : ∃ d M, r = .ok d M ∧ P d M := by
  cases r with
  | ok d M => exact ⟨d, M, rfl, h⟩
  | _ => exact h.elim
/-- a def -/
theorem w_defn {n k : Nat} {c : Sx} {ds : List D} (h : ds.length = n) : wO (defn n k c ds M) P = wS (c (ds.map some ++ List.replicate (k - n) none) M) { nx := fun _ M => P .non M, rt := P } := by
  unfold defn
  rw [if_pos h]
  cases c (ds.map some ++ List.replicate (k - n) none) M <;> rfl
theorem w_defn1 {k : Nat} {c : Sx} {a : D} : wO (defn 1 k c [a] M) P = wS (c (some a :: List.replicate (k - 1) none) M) { nx := fun _ M => P .non M, rt := P } := w_defn rfl
theorem w_defn2 {k : Nat} {c : Sx} {a b : D} : wO (defn 2 k c [a, b] M) P = wS (c (some a :: some b :: List.replicate (k - 2) none) M) { nx := fun _ M => P .non M, rt := P } := w_defn rfl
theorem w_defn3 {k : Nat} {c : Sx} {a b d : D} : wO (defn 3 k c [a, b, d] M) P = wS (c (some a :: some b :: some d :: List.replicate (k - 3) none) M) { nx := fun _ M => P .non M, rt := P } := w_defn rfl
theorem w_defn4 {k : Nat} {c : Sx} {a b d e : D} : wO (defn 4 k c [a, b, d, e] M) P = wS (c (some a :: some b :: some d :: some e :: List.replicate (k - 4) none) M) { nx := fun _ M => P .non M, rt := P } := w_defn rfl
theorem w_defn5 {k : Nat} {c : Sx} {a b d e f : D} : wO (defn 5 k c [a, b, d, e, f] M) P = wS (c (some a :: some b :: some d :: some e :: some f :: List.replicate (k - 5) none) M) { nx := fun _ M => P .non M, rt := P } := w_defn rfl
/-- for -/
theorem w_for {dead : List Nat} {fi : EvI} : wS (sFor dead fi G s env M) W = wI (fi env M) fun ds chk M => wS (forD dead chk G s ds env M) W := by
  unfold sFor
  cases fi env M <;> rfl
/-- a loop by what stands at its head -/
theorem w_forD {dead : List Nat} {chk : Mem → Bool} {ds : List D} {W : Wi} (I : Nat → Env → Mem → Prop) (h0 : I 0 (wipeE env dead) M) (hc : ∀ i e M, I i e M → chk M = true)
    (hs : ∀ i d e M, ds[i]? = some d → I i e M → wS (G d e M) { nx := fun e M => wS (s e M) { nx := fun e M => I (i + 1) (wipeE e dead) M, ct := fun e M => I (i + 1) (wipeE e dead) M, bk := fun e M => W.nx (wipeE e dead) M, rt := W.rt } }) (he : ∀ e M, I ds.length e M → W.nx e M) : wS (forD dead chk G s ds env M) W := by
  have : ∀ (n : Nat) (ds' : List D) (e : Env) (M : Mem), ds.drop n = ds' → n ≤ ds.length → I n (wipeE e dead) M → wS (forD dead chk G s ds' e M) W := by
    intro n ds'
    induction ds' generalizing n with
    | nil =>
      intro e M hd hn hI
      have : n = ds.length := by
        have := congrArg List.length hd
        simp at this
        omega
      subst this
      unfold forD
      rw [if_pos (hc _ _ _ hI)]
      exact he _ _ hI
    | cons d ds' ih =>
      intro e M hd hn hI
      have hg : ds[n]? = some d := by
        have := congrArg (fun l => l[0]?) hd
        simpa using this
      have hlt : n < ds.length := (List.getElem?_eq_some_iff.mp hg).1
      have hd' : ds.drop (n + 1) = ds' := by
        have := congrArg List.tail hd
        simpa using this
      unfold forD
      rw [if_pos (hc _ _ _ hI)]
      have q := hs n d _ M hg hI
      cases qg : G d (wipeE e dead) M with
      | nx e1 M1 =>
        rw [qg] at q
        simp only
        have q : wS (s e1 M1) _ := q
        cases qs : s e1 M1 with
        | nx e2 M2 => rw [qs] at q; exact ih (n + 1) e2 M2 hd' hlt q
        | ct e2 M2 => rw [qs] at q; exact ih (n + 1) e2 M2 hd' hlt q
        | bk e2 M2 => rw [qs] at q; exact q
        | rt d M2 => rw [qs] at q; exact q
        | ex x e2 M2 => rw [qs] at q; exact q.elim
        | st => rw [qs] at q; exact q.elim
      | _ => rw [qg] at q; exact q.elim
  exact this 0 ds env M (by simp) (Nat.zero_le _) h0
end
end DL

namespace DL
open PySem L2

/-! ### bags -/
abbrev Bag := List (Int × Int)
def bagD (b : Bag) : D := .tup (b.map pairD)
def Val (b : Bag) : Prop := b.Pairwise (fun p q => p.1 < q.1) ∧ ∀ p ∈ b, 1 ≤ p.2
def cum : Bag → Int → Int
  | [], _ => 0
  | p :: b, x => (if p.1 ≤ x then p.2 else 0) + cum b x
def cnt : Bag → Int → Int
  | [], _ => 0
  | p :: b, x => (if p.1 = x then p.2 else 0) + cnt b x
def tot : Bag → Int
  | [] => 0
  | p :: b => p.2 + tot b
theorem cnt_cum : ∀ (b : Bag) (x : Int), cnt b x = cum b x - cum b (x - 1)
  | [], x => by simp [cnt, cum]
  | p :: b, x => by
    unfold cnt cum
    rw [cnt_cum b x]
    split <;> split <;> split <;> omega
theorem Val.tail {p : Int × Int} {b : Bag} (h : Val (p :: b)) : Val b := ⟨(List.pairwise_cons.mp h.1).2, fun q hq => h.2 q (List.mem_cons_of_mem _ hq)⟩
theorem Val.lt {p : Int × Int} {b : Bag} (h : Val (p :: b)) : ∀ q ∈ b, p.1 < q.1 := (List.pairwise_cons.mp h.1).1
theorem Val.pos {p : Int × Int} {b : Bag} (h : Val (p :: b)) : 1 ≤ p.2 := h.2 p List.mem_cons_self
theorem cum_low : ∀ {b : Bag} {x : Int}, (∀ q ∈ b, x < q.1) → cum b x = 0
  | [], x, _ => rfl
  | p :: b, x, h => by
    unfold cum
    rw [cum_low fun q hq => h q (List.mem_cons_of_mem _ hq), if_neg]
    · omega
    · have := h p List.mem_cons_self; omega
theorem cum_nonneg : ∀ {b : Bag} (x : Int), (∀ p ∈ b, 0 ≤ p.2) → 0 ≤ cum b x
  | [], x, _ => Int.le_refl 0
  | p :: b, x, h => by
    unfold cum
    have := cum_nonneg (b := b) x fun q hq => h q (List.mem_cons_of_mem _ hq)
    have := h p List.mem_cons_self
    split <;> omega
theorem Val.nn {b : Bag} (h : Val b) : ∀ p ∈ b, 0 ≤ p.2 := fun p hp => by have := h.2 p hp; omega
theorem bag_ext : ∀ {a b : Bag}, Val a → Val b → (∀ x, cum a x = cum b x) → a = b
  | [], [], _, _, _ => rfl
  | [], q :: b, _, hb, h => by
    have h1 := h q.1
    unfold cum at h1
    rw [if_pos (Int.le_refl _), cum_low (b := b) (hb.lt)] at h1
    have := hb.pos
    have e : cum ([] : Bag) q.1 = 0 := rfl
    omega
  | p :: a, [], ha, _, h => by
    have h1 := h p.1
    unfold cum at h1
    rw [if_pos (Int.le_refl _), cum_low (b := a) (ha.lt)] at h1
    have := ha.pos
    have e : cum ([] : Bag) p.1 = 0 := rfl
    omega
  | p :: a, q :: b, ha, hb, h => by
    have pp := ha.pos
    have qp := hb.pos
    have e1 : p.1 = q.1 := by
      rcases Int.lt_trichotomy p.1 q.1 with l | l | l
      · have h1 := h p.1
        rw [cum_low (b := q :: b) fun z hz => by
          rcases List.mem_cons.1 hz with rfl | hz
          · exact l
          · have := hb.lt z hz; omega] at h1
        unfold cum at h1
        rw [if_pos (Int.le_refl _), cum_low (b := a) (ha.lt)] at h1
        omega
      · exact l
      · have h1 := h q.1
        rw [cum_low (b := p :: a) fun z hz => by
          rcases List.mem_cons.1 hz with rfl | hz
          · exact l
          · have := ha.lt z hz; omega] at h1
        unfold cum at h1
        rw [if_pos (Int.le_refl _), cum_low (b := b) (hb.lt)] at h1
        omega
    have e2 : p.2 = q.2 := by
      have h1 := h p.1
      unfold cum at h1
      rw [if_pos (Int.le_refl _), cum_low (b := a) (ha.lt), if_pos (by omega), cum_low (b := b) (fun z hz => by have := hb.lt z hz; omega)] at h1
      omega
    have e3 : a = b := bag_ext ha.tail hb.tail fun x => by
      have h1 := h x
      unfold cum at h1
      rw [e1, e2] at h1
      omega
    rw [e3]
    congr 1
    exact Prod.ext e1 e2
theorem cum_top : ∀ (b : Bag), ∃ N, ∀ x, N ≤ x → cum b x = tot b
  | [] => ⟨0, fun _ _ => rfl⟩
  | p :: b => by
    obtain ⟨N, h⟩ := cum_top b
    refine ⟨max N p.1, fun x hx => ?_⟩
    unfold cum tot
    rw [h x (by omega), if_pos (by omega)]
/-! dicts of ints -/
def getI : Bag → Int → Int
  | [], _ => 0
  | p :: b, k => if p.1 = k then p.2 else getI b k
def putI : Bag → Int → Int → Bag
  | [], k, v => [(k, v)]
  | p :: b, k, v => if p.1 = k then (k, v) :: b else p :: putI b k v
def Dst (b : Bag) : Prop := (b.map (·.1)).Nodup
theorem putI_keys : ∀ (b : Bag) (k v : Int), (putI b k v).map (·.1) = if k ∈ b.map (·.1) then b.map (·.1) else b.map (·.1) ++ [k]
  | [], k, v => by simp [putI]
  | p :: b, k, v => by
    unfold putI
    by_cases e : p.1 = k
    · simp [e]
    · rw [if_neg e, List.map_cons, putI_keys b k v]
      have e' : ¬ k = p.1 := fun z => e z.symm
      by_cases h : k ∈ b.map (·.1)
      · rw [if_pos h, if_pos (by simp only [List.map_cons, List.mem_cons]; exact .inr h)]; rfl
      · rw [if_neg h, if_neg (by simp only [List.map_cons, List.mem_cons, not_or]; exact ⟨e', h⟩)]; rfl
theorem Dst.put {b : Bag} (h : Dst b) (k v : Int) : Dst (putI b k v) := by
  unfold Dst
  rw [putI_keys]
  split
  · exact h
  · rename_i q
    rw [List.nodup_append]
    refine ⟨h, by simp, fun a ha c hc => ?_⟩
    obtain rfl := List.mem_singleton.1 hc
    exact fun z => q (z ▸ ha)
theorem getI_cnt : ∀ {b : Bag} (k : Int), Dst b → getI b k = cnt b k
  | [], k, _ => rfl
  | p :: b, k, h => by
    have h' := List.nodup_cons.mp (show (p.1 :: b.map (·.1)).Nodup from h)
    unfold getI cnt
    by_cases e : p.1 = k
    · rw [if_pos e, if_pos e]
      have : ∀ {b : Bag}, k ∉ b.map (·.1) → cnt b k = 0 := by
        intro b
        induction b with
        | nil => intro _; rfl
        | cons q b ih =>
          intro h
          simp only [List.map_cons, List.mem_cons, not_or] at h
          unfold cnt
          rw [if_neg (fun z => h.1 z.symm), ih h.2]
          omega
      rw [this (e ▸ h'.1)]
      omega
    · rw [if_neg e, if_neg e, getI_cnt k h'.2]
      omega
theorem cum_put : ∀ (b : Bag) (k v x : Int), cum (putI b k v) x = cum b x + (if k ≤ x then v - getI b k else 0)
  | [], k, v, x => by simp [putI, cum, getI]
  | p :: b, k, v, x => by
    unfold putI getI
    by_cases e : p.1 = k
    · rw [if_pos e, if_pos e]
      unfold cum
      simp only [e]
      split <;> omega
    · rw [if_neg e, if_neg e]
      unfold cum
      rw [cum_put b k v x]
      omega
/-- what from_counts makes -/
def canon (b : Bag) : Bag := sortP (b.filter fun p => decide (0 < p.2))
theorem cum_perm {a b : Bag} (h : a.Perm b) (x : Int) : cum a x = cum b x := by
  induction h with
  | nil => rfl
  | cons p _ ih => unfold cum; rw [ih]
  | swap p q l => unfold cum; unfold cum; omega
  | trans _ _ i1 i2 => exact i1.trans i2
theorem cum_filter : ∀ (b : Bag) (x : Int), (∀ p ∈ b, 0 ≤ p.2) → cum (b.filter fun p => decide (0 < p.2)) x = cum b x
  | [], x, _ => rfl
  | p :: b, x, h => by
    have ih := cum_filter b x fun q hq => h q (List.mem_cons_of_mem _ hq)
    have hp := h p List.mem_cons_self
    rw [List.filter_cons]
    split
    · unfold cum; rw [ih]
    · rename_i q
      have : p.2 = 0 := by
        have : ¬ 0 < p.2 := by simpa using q
        omega
      conv => rhs; unfold cum
      rw [ih, this]
      split <;> omega
theorem cum_canon {b : Bag} (h : ∀ p ∈ b, 0 ≤ p.2) (x : Int) : cum (canon b) x = cum b x := by
  unfold canon
  rw [cum_perm (sortP_perm _), cum_filter b x h]
theorem val_canon {b : Bag} (h : Dst b) : Val (canon b) := by
  have hf : Dst (b.filter fun p => decide (0 < p.2)) := List.Nodup.sublist ((List.filter_sublist).map _) h
  refine ⟨?_, fun p hp => ?_⟩
  · have hn : ((canon b).map (·.1)).Nodup := ((sortP_perm _).map _).nodup_iff.mpr hf
    have hs : (canon b).Pairwise (fun x y => SrtO.lexB y x = false) := sortP_sorted _
    have hn2 : (canon b).Pairwise (fun x y => x.1 ≠ y.1) := List.pairwise_map.mp hn
    exact (List.pairwise_and_iff.mpr ⟨hs, hn2⟩).imp fun {x y} z => by
      have := SrtO.lexB_no.mp z.1
      have := z.2
      omega
  · have := (sortP_perm _).mem_iff.mp hp
    have := (List.mem_filter.mp this).2
    have : 0 < p.2 := of_decide_eq_true this
    omega

/-! take, drop, scale -/
def takeB : Int → Bag → Bag
  | _, [] => []
  | l, p :: b => if 0 < l then (p.1, min l p.2) :: takeB (l - min l p.2) b else takeB l b
def dropB : Int → Bag → Bag
  | _, [] => []
  | l, p :: b => if min l p.2 < p.2 then (p.1, p.2 - min l p.2) :: dropB (l - min l p.2) b else dropB (l - min l p.2) b
theorem takeB_keys : ∀ (l : Int) (b : Bag), ∀ q ∈ takeB l b, ∃ p ∈ b, p.1 = q.1
  | _, [], q, h => by cases h
  | l, p :: b, q, h => by
    unfold takeB at h
    split at h
    · rcases List.mem_cons.1 h with rfl | h
      · exact ⟨p, List.mem_cons_self, rfl⟩
      · obtain ⟨z, hz, e⟩ := takeB_keys _ b q h
        exact ⟨z, List.mem_cons_of_mem _ hz, e⟩
    · obtain ⟨z, hz, e⟩ := takeB_keys _ b q h
      exact ⟨z, List.mem_cons_of_mem _ hz, e⟩
theorem takeB_zero : ∀ {l : Int} (b : Bag), l ≤ 0 → takeB l b = []
  | _, [], _ => rfl
  | l, p :: b, h => by
    unfold takeB
    rw [if_neg (by omega)]
    exact takeB_zero b h
theorem val_take : ∀ {l : Int} {b : Bag}, Val b → Val (takeB l b)
  | _, [], _ => ⟨.nil, by simp [takeB]⟩
  | l, p :: b, h => by
    unfold takeB
    split
    · have ih := val_take (l := l - min l p.2) h.tail
      refine ⟨List.pairwise_cons.mpr ⟨fun q hq => ?_, ih.1⟩, fun q hq => ?_⟩
      · obtain ⟨z, hz, e⟩ := takeB_keys _ b q hq
        have := h.lt z hz
        show p.1 < q.1
        omega
      · rcases List.mem_cons.1 hq with rfl | hq
        · have := h.pos
          show 1 ≤ min l p.2
          omega
        · exact ih.2 q hq
    · exact val_take h.tail
theorem cum_take : ∀ {l : Int} {b : Bag} (x : Int), Val b → 0 ≤ l → cum (takeB l b) x = min (cum b x) l
  | l, [], x, _, h => by unfold takeB cum; omega
  | l, p :: b, x, hb, h => by
    have h0 := cum_nonneg x hb.tail.nn
    have hp := hb.pos
    unfold takeB
    split
    · rename_i hl
      unfold cum
      rw [cum_take x hb.tail (by omega)]
      simp only
      by_cases e : p.1 ≤ x
      · rw [if_pos e, if_pos e]
        omega
      · rw [if_neg e, if_neg e, cum_low (b := b) (fun q hq => by have := hb.lt q hq; omega)]
        omega
    · rename_i hl
      have : l = 0 := by omega
      subst this
      rw [takeB_zero b (by omega)]
      unfold cum
      have : cum ([] : Bag) x = 0 := rfl
      split <;> omega
theorem dropB_keys : ∀ (l : Int) (b : Bag), ∀ q ∈ dropB l b, ∃ p ∈ b, p.1 = q.1
  | _, [], q, h => by cases h
  | l, p :: b, q, h => by
    unfold dropB at h
    split at h
    · rcases List.mem_cons.1 h with rfl | h
      · exact ⟨p, List.mem_cons_self, rfl⟩
      · obtain ⟨z, hz, e⟩ := dropB_keys _ b q h
        exact ⟨z, List.mem_cons_of_mem _ hz, e⟩
    · obtain ⟨z, hz, e⟩ := dropB_keys _ b q h
      exact ⟨z, List.mem_cons_of_mem _ hz, e⟩
theorem val_drop : ∀ {l : Int} {b : Bag}, Val b → Val (dropB l b)
  | _, [], _ => ⟨.nil, by simp [dropB]⟩
  | l, p :: b, h => by
    unfold dropB
    split
    · have ih := val_drop (l := l - min l p.2) h.tail
      refine ⟨List.pairwise_cons.mpr ⟨fun q hq => ?_, ih.1⟩, fun q hq => ?_⟩
      · obtain ⟨z, hz, e⟩ := dropB_keys _ b q hq
        have := h.lt z hz
        show p.1 < q.1
        omega
      · rcases List.mem_cons.1 hq with rfl | hq
        · show 1 ≤ p.2 - min l p.2
          omega
        · exact ih.2 q hq
    · exact val_drop h.tail
theorem cum_drop : ∀ {l : Int} {b : Bag} (x : Int), Val b → 0 ≤ l → cum (dropB l b) x = max (cum b x - l) 0
  | l, [], x, _, h => by unfold dropB cum; omega
  | l, p :: b, x, hb, h => by
    have h0 := cum_nonneg x hb.tail.nn
    have hp := hb.pos
    have ih := cum_drop (l := l - min l p.2) x hb.tail (by omega)
    by_cases e : p.1 ≤ x
    · unfold dropB
      split
      · unfold cum
        rw [ih]
        simp only
        rw [if_pos e, if_pos e]
        omega
      · rw [ih]
        show _ = max ((if p.1 ≤ x then p.2 else 0) + cum b x - l) 0
        rw [if_pos e]
        omega
    · have z : ∀ q ∈ b, x < q.1 := fun q hq => by have := hb.lt q hq; omega
      have e2 : cum (dropB l (p :: b)) x = 0 := cum_low fun q hq => by
        obtain ⟨y, hy, e3⟩ := dropB_keys _ _ q hq
        rcases List.mem_cons.1 hy with rfl | hy
        · omega
        · have := z y hy; omega
      rw [e2]
      unfold cum
      rw [if_neg e, cum_low z]
      omega
/-- no other key, no more than b's: what remains of the greatest -/
theorem tot_cum {a b : Bag} {f : Int → Int} {c : Int} (h : ∀ x, cum a x = f (cum b x)) : tot a = f (tot b) := by
  obtain ⟨N, hN⟩ := cum_top a
  obtain ⟨N', hN'⟩ := cum_top b
  have := h (max N N')
  rw [hN _ (by omega), hN' _ (by omega)] at this
  exact this
theorem tot_cum2 {a b c : Bag} {f : Int → Int → Int} (h : ∀ x, cum a x = f (cum b x) (cum c x)) : tot a = f (tot b) (tot c) := by
  obtain ⟨N, hN⟩ := cum_top a
  obtain ⟨N', hN'⟩ := cum_top b
  obtain ⟨N2, hN2⟩ := cum_top c
  have := h (max N (max N' N2))
  rw [hN _ (by omega), hN' _ (by omega), hN2 _ (by omega)] at this
  exact this
theorem cum_le_tot : ∀ {b : Bag} (x : Int), (∀ p ∈ b, 0 ≤ p.2) → cum b x ≤ tot b
  | [], x, _ => Int.le_refl 0
  | p :: b, x, h => by
    unfold cum tot
    have := cum_le_tot (b := b) x fun q hq => h q (List.mem_cons_of_mem _ hq)
    have := h p List.mem_cons_self
    split <;> omega
/-! data of bags -/
theorem pures_pairs : ∀ b : Bag, puresD (b.map pairD) = true
  | [] => rfl
  | p :: b => by
    show (pureD (pairD p) && puresD (b.map pairD)) = true
    rw [pures_pairs b]
    rfl
theorem pure_bag (b : Bag) : pureD (bagD b) = true := pures_pairs b
/-! calls -/
theorem w_callP {F : Fn} {ds : List D} {M : Mem} {P : D → Mem → Prop} (hp : puresD ds = true) (h : wO (F ds []) fun d _ => pureD d = true ∧ P d M) : wO (callF F ds M) P := by
  unfold callF
  rw [if_pos hp]
  obtain ⟨d, M1, e, h1, h2⟩ := wO_ex h
  rw [e]
  have hb : backD 0 d M1 = some d := by
    unfold backD
    split
    · cases h1
    · rw [if_pos h1]
  show wO (match some M, backD 0 d M1 with
    | some M', some d' => .ok d' M'
    | _, _ => .st) P
  rw [hb]
  exact h2
theorem w_callM {F : Fn} {ds : List D} {M : Mem} {P : D → Mem → Prop} (hp : puresD ds = false) (h : wO (F ds M) fun d M1 => pureD d = true ∧ (M1.take M.length).all pureOb = true ∧ P d (M1.take M.length)) : wO (callF F ds M) P := by
  unfold callF
  rw [if_neg (by rw [hp]; decide)]
  obtain ⟨d, M1, e, h1, h2, h3⟩ := wO_ex h
  rw [e]
  have hb : backD M.length d M1 = some d := by
    unfold backD
    split
    · cases h1
    · rw [if_pos h1]
  have hc : cutM M.length M1 = some (M1.take M.length) := by
    unfold cutM
    rw [if_pos h2]
  show wO (match cutM M.length M1, backD M.length d M1 with
    | some M', some d' => .ok d' M'
    | _, _ => .st) P
  rw [hb, hc]
  exact h3
theorem w_newF {F : Fn} {ds : List D} {M : Mem} {P : D → Mem → Prop} (hp : puresD ds = true) (h : wO (F ds []) fun d M1 => ∃ l ob, d = .ref l ∧ M1[l]? = some ob ∧ pureOb ob = true ∧ P (.ref M.length) (M ++ [ob])) : wO (newF F ds M) P := by
  unfold newF
  rw [if_pos hp]
  obtain ⟨d, M1, e, l, ob, rfl, h1, h2, h3⟩ := wO_ex h
  rw [e]
  simp only [h1, h2, if_true]
  exact h3
end DL

namespace DL
open PySem L2
section
variable {fa fb fc ft fe fo : Ev} {fl : EvL} {env : Env} {M : Mem} {P : D → Mem → Prop} {PL : List D → Mem → Prop} {W : Wi} {G : Tg}
theorem w_gT2 {gs : TgL} {a b : D} : wS (gT 2 gs (.tup [a, b]) env M) W = wS (gs [a, b] env M) W := rfl
theorem w_gT3 {gs : TgL} {a b c : D} : wS (gT 3 gs (.tup [a, b, c]) env M) W = wS (gs [a, b, c] env M) W := rfl
theorem w_gTi2 {gs : TgL} {a b : D} : wS (gT 2 gs (.itm [a, b]) env M) W = wS (gs [a, b] env M) W := rfl
theorem w_neg {fa : Ev} : wO (eNeg fa env M) P = wO (fa env M) fun d M => wO (negD d M) P := by unfold eNeg; rw [wO_bind]
theorem w_negI {i : Int} : wO (negD (.int i) M) P = P (.int (-i)) M := rfl
theorem w_t20 {a b : D} : wO (gIx (.tup [a, b]) (.int 0) M) P = P a M := rfl
theorem w_t21 {a b : D} : wO (gIx (.tup [a, b]) (.int 1) M) P = P b M := rfl
theorem w_t30 {a b c : D} : wO (gIx (.tup [a, b, c]) (.int 0) M) P = P a M := rfl
theorem w_t31 {a b c : D} : wO (gIx (.tup [a, b, c]) (.int 1) M) P = P b M := rfl
theorem w_t32 {a b c : D} : wO (gIx (.tup [a, b, c]) (.int 2) M) P = P c M := rfl
theorem w_ixR {l : Nat} {xs : List D} {i : Int} {d : D} (h : M[l]? = some (.lst xs)) (ha : atI xs i = some d) : wO (gIx (.ref l) (.int i) M) P = P d M := by
  unfold gIx
  have : seqD M (.ref l) = some xs := by show derefL M (.ref l) = _; unfold derefL; simp only [h]
  simp only [this, ha]
  rfl
theorem atI_last (xs : List D) (d : D) : atI (xs ++ [d]) (-1) = some d := by
  have hl : (xs ++ [d]).length = xs.length + 1 := by simp
  unfold atI ixN
  rw [if_neg (by decide), hl, if_pos (by omega)]
  have e : ((-1 : Int) + ((xs.length + 1 : Nat) : Int)).toNat = xs.length := by omega
  rw [e]
  show (xs ++ [d])[xs.length]? = some d
  exact List.getElem?_concat_length
def appW (d : D) (fa : Ev) (env : Env) (M : Mem) (P : D → Mem → Prop) : Prop := match d with
  | .ref l => match M[l]? with
    | some (.lst _) => wO (fa env M) fun x M2 => match M2[l]? with
      | some (.lst xs) => xs.length < sizeLine ∧ P .non (M2.set l (.lst (xs ++ [x])))
      | _ => False
    | _ => False
  | _ => False
theorem w_app : wO (mAppend fo fa env M) P = wO (fo env M) fun d M => appW d fa env M P := by
  unfold mAppend
  rw [wO_bind]
  congr
  funext d M
  unfold appW
  cases d with
  | ref l =>
    simp only
    cases h : M[l]? with
    | none => rfl
    | some ob =>
      cases ob with
      | lst ys =>
        simp only
        rw [wO_bind]
        congr
        funext x M2
        cases h2 : M2[l]? with
        | none => rfl
        | some ob2 =>
          cases ob2 with
          | lst xs =>
            simp only
            by_cases hz : xs.length < sizeLine
            · rw [if_pos hz]; simp [hz, wO]
            · rw [if_neg hz]; simp [hz, wO]
          | _ => rfl
      | _ => rfl
  | _ => rfl
theorem w_appR {l : Nat} {ys : List D} (h : M[l]? = some (.lst ys)) : appW (.ref l) fa env M P = wO (fa env M) fun x M2 => match M2[l]? with
      | some (.lst xs) => xs.length < sizeLine ∧ P .non (M2.set l (.lst (xs ++ [x])))
      | _ => False := by
  unfold appW
  simp only [h]
theorem w_min2 {i j : Int} : wO (nMin2 [.int i, .int j] M) P = P (.int (min i j)) M := by
  show P (.int (if j < i then j else i)) M = _
  have : (if j < i then j else i) = min i j := by omega
  rw [this]
theorem w_max2 {i j : Int} : wO (nMax2 [.int i, .int j] M) P = P (.int (max i j)) M := by
  show P (.int (if j > i then j else i)) M = _
  have : (if j > i then j else i) = max i j := by omega
  rw [this]
theorem w_tupR {l : Nat} {xs : List D} (h : M[l]? = some (.lst xs)) : wO (nTup [.ref l] M) P = P (.tup xs) M := by
  have : derefL M (.ref l) = some xs := by unfold derefL; simp only [h]
  show wO (match derefL M (.ref l) with
    | some ds => .ok (.tup ds) M
    | none => .st) P = _
  rw [this]
  rfl
theorem w_tupL {xs : List D} : wO (nTup [.lst xs] M) P = P (.tup xs) M := rfl
theorem intsD_map : ∀ ns : List Int, intsD (ns.map D.int) = some ns
  | [] => rfl
  | n :: ns => by
    show (intsD (ns.map D.int)).map (n :: ·) = _
    rw [intsD_map ns]
    rfl
theorem boolsD_map : ∀ ns : List Bool, boolsD (ns.map D.bl) = some ns
  | [] => rfl
  | n :: ns => by
    show (boolsD (ns.map D.bl)).map (n :: ·) = _
    rw [boolsD_map ns]
    rfl
theorem w_sumL {ns : List Int} : wO (nSum [.lst (ns.map D.int)] M) P = P (.int ns.sum) M := by
  unfold nSum
  have : (readL M [.lst (ns.map D.int)]).bind intsD = some ns := intsD_map ns
  rw [this]
  rfl
theorem w_anyL {ns : List Bool} : wO (nAny [.lst (ns.map D.bl)] M) P = P (.bl (ns.any id)) M := by
  unfold nAny
  have : (readL M [.lst (ns.map D.bl)]).bind boolsD = some ns := boolsD_map ns
  rw [this]
  rfl
theorem w_lenT {xs : List D} : wO (nLen [.tup xs] M) P = P (.int xs.length) M := rfl
/-! comprehensions -/
theorem comp_fm {chk : Mem → Bool} {ds : List D} (f : D → Option D) (hc : chk M = true) : (∀ d ∈ ds, wS (G d env M) { nx := fun e M1 => wO (ft e M1) fun b M2 => M2 = M ∧ ((b = .bl true ∧ wO (fe e M2) fun y M3 => M3 = M ∧ f d = some y) ∨ (b = .bl false ∧ f d = none)) }) → compD chk G ft fe env ds M = .ok (ds.filterMap f) M := by
  induction ds with
  | nil => intro _; unfold compD; rw [if_pos hc]; rfl
  | cons d ds ih =>
    intro h
    have ih := ih fun d hd => h d (List.mem_cons_of_mem _ hd)
    have h1 := h d List.mem_cons_self
    unfold compD
    rw [if_pos hc]
    cases hg : G d env M with
    | nx e1 M1 =>
      rw [hg] at h1
      have h1 : wO (ft e1 M1) _ := h1
      obtain ⟨b, M2, e2, rfl, h2⟩ := wO_ex h1
      simp only [e2]
      rcases h2 with ⟨rfl, h2⟩ | ⟨rfl, h2⟩
      · obtain ⟨y, M3, e3, rfl, h3⟩ := wO_ex h2
        simp only [e3, ih]
        rw [List.filterMap_cons, h3]
        rfl
      · simp only [ih]
        rw [List.filterMap_cons, h2]
    | _ => rw [hg] at h1; exact h1.elim
theorem w_lc {vs : List Nat} {fi : EvI} {ds : List D} {chk : Mem → Bool} {M1 : Mem} (f : D → Option D) (hi : wI (fi env M) fun ds' c' M' => ds' = ds ∧ c' = chk ∧ M' = M1) (hz : ds.length ≤ sizeLine) (hc : chk M1 = true)
    (h : ∀ d ∈ ds, wS (G d (wipeE env vs) M1) { nx := fun e M2 => wO (ft e M2) fun b M3 => M3 = M1 ∧ ((b = .bl true ∧ wO (fe e M3) fun y M4 => M4 = M1 ∧ f d = some y) ∨ (b = .bl false ∧ f d = none)) }) : wO (eLc vs fi G ft fe env M) P = P (.lst (ds.filterMap f)) M1 := by
  unfold eLc
  cases q : fi env M with
  | ok ds' c' M' =>
    rw [q] at hi
    obtain ⟨rfl, rfl, rfl⟩ := hi
    simp only
    rw [if_pos hz, comp_fm f hc h]
    rfl
  | ex x M' => rw [q] at hi; exact hi.elim
  | st => rw [q] at hi; exact hi.elim
theorem w_lcK {src : List (Key × D) → List D} {i l : Nat} {vs : List Nat} {kvs : List (Key × D)} (f : D → Option D) (hv : env[i]? = some (some (.ref l))) (hl : M[l]? = some (.dic kvs)) (hp : (kvs.all fun p => pureD p.2) = true) (hz : (src kvs).length ≤ sizeLine)
    (h : ∀ d ∈ src kvs, wS (G d (wipeE (envP env) vs) []) { nx := fun e M2 => wO (ft e M2) fun b M3 => M3 = [] ∧ ((b = .bl true ∧ wO (fe e M3) fun y M4 => M4 = [] ∧ f d = some y) ∨ (b = .bl false ∧ f d = none)) }) (hy : puresD ((src kvs).filterMap f) = true) :
    wO (eLcK src i vs G ft fe env M) P = P (.lst ((src kvs).filterMap f)) M := by
  unfold eLcK
  simp only [hv, hl]
  rw [if_pos (by simp [hp, hz]), comp_fm f (chk := cYes) rfl h]
  simp only
  rw [if_pos hy]
  rfl
end
/-! dicts of ints -/
def kvI (b : Bag) : List (Key × D) := b.map fun p => (.inl p.1, .int p.2)
theorem getA_kv : ∀ (b : Bag) (k : Int), (getA (kvI b) (.inl k)).getD (.int 0) = .int (getI b k)
  | [], k => rfl
  | p :: b, k => by
    show (if (Sum.inl p.1 : Key) = .inl k then some (D.int p.2) else getA (kvI b) (.inl k)).getD (.int 0) = .int (if p.1 = k then p.2 else getI b k)
    by_cases e : p.1 = k
    · rw [if_pos e, if_pos (by rw [e])]; rfl
    · rw [if_neg e, if_neg (fun z => e (Sum.inl.inj z))]; exact getA_kv b k
theorem hasA_kv : ∀ (b : Bag) (k : Int), hasA (kvI b) (.inl k) = decide (k ∈ b.map (·.1))
  | [], k => by simp [hasA, getA, kvI]
  | p :: b, k => by
    have ih := hasA_kv b k
    unfold hasA at ih ⊢
    show (if (Sum.inl p.1 : Key) = .inl k then some (D.int p.2) else getA (kvI b) (.inl k)).isSome = _
    by_cases e : p.1 = k
    · rw [if_pos (by rw [e])]; simp [e]
    · rw [if_neg (fun z => e (Sum.inl.inj z)), ih]
      have : ¬ k = p.1 := fun z => e z.symm
      simp [this]
theorem putA_kv {b : Bag} (h : Dst b) (k v : Int) : putA (kvI b) (.inl k) (.int v) = kvI (putI b k v) := by
  unfold putA
  rw [hasA_kv]
  have no : ∀ {b : Bag}, k ∉ b.map (·.1) → putI b k v = b ++ [(k, v)] := by
    intro b
    induction b with
    | nil => intro _; rfl
    | cons p b ih =>
      intro h
      simp only [List.map_cons, List.mem_cons, not_or] at h
      unfold putI
      rw [if_neg (fun z => h.1 z.symm), ih h.2]
      rfl
  by_cases e : k ∈ b.map (·.1)
  · rw [if_pos (by simpa using e)]
    clear no
    induction b with
    | nil => simp at e
    | cons p b ih =>
      have h' := List.nodup_cons.mp (show (p.1 :: b.map (·.1)).Nodup from h)
      show (if (Sum.inl p.1 : Key) = .inl k then ((Sum.inl p.1 : Key), D.int v) else (.inl p.1, .int p.2)) :: (kvI b).map _ = _
      unfold putI
      by_cases e1 : p.1 = k
      · rw [if_pos (by rw [e1]), if_pos e1]
        have nk : k ∉ b.map (·.1) := e1 ▸ h'.1
        have : (kvI b).map (fun q => if q.1 = Sum.inl k then (q.1, D.int v) else q) = kvI b := by
          unfold kvI
          rw [List.map_map]
          refine List.map_congr_left fun q hq => ?_
          show (if (Sum.inl q.1 : Key) = .inl k then _ else _) = _
          rw [if_neg]
          intro z
          exact nk (by rw [← Sum.inl.inj z]; exact List.mem_map_of_mem hq)
        rw [this, e1]
        rfl
      · rw [if_neg (fun z => e1 (Sum.inl.inj z)), if_neg e1]
        simp only [List.map_cons, List.mem_cons] at e
        rw [ih h'.2 (e.resolve_left fun z => e1 z.symm)]
        rfl
  · rw [if_neg (by simpa using e), no e]
    unfold kvI
    simp
def foldP (f : Int → Int → Int) (a : Bag) : Bag → Bag
  | [] => a
  | p :: b => foldP f (putI a p.1 (f (getI a p.1) p.2)) b
theorem kvsD_pairs : ∀ b : Bag, kvsD (b.map pairD) = some (kvI b)
  | [] => rfl
  | p :: b => by
    show (match keyD (.int p.1), kvsD (b.map pairD) with
    | some k, some q => some ((k, D.int p.2) :: q)
    | _, _ => none) = _
    rw [kvsD_pairs b]
    rfl
theorem merge_kv : ∀ (b : Bag) {a : Bag}, Dst (a ++ b) → mergeA (kvI a) (kvI b) = kvI (a ++ b)
  | [], a, _ => by simp [mergeA, kvI]
  | p :: b, a, h => by
    have hn : p.1 ∉ a.map (·.1) := fun z => by
      unfold Dst at h
      rw [List.map_append, List.nodup_append] at h
      exact h.2.2 _ z _ (by simp) rfl
    have ha : Dst a := by
      unfold Dst at h ⊢
      rw [List.map_append, List.nodup_append] at h
      exact h.1
    show mergeA (putA (kvI a) (.inl p.1) (.int p.2)) (kvI b) = _
    have e : putA (kvI a) (.inl p.1) (.int p.2) = kvI (a ++ [p]) := by
      unfold putA
      rw [hasA_kv, if_neg (by simpa using hn)]
      unfold kvI
      simp
    rw [e, merge_kv b (by simpa using h)]
    simp
theorem Val.dst {b : Bag} (h : Val b) : Dst b := by
  unfold Dst
  exact List.pairwise_map.mpr (h.1.imp fun {x y} z => by omega)
theorem w_dict {b : Bag} {M : Mem} {P : D → Mem → Prop} (h : Val b) : wO (nDict [bagD b] M) P = P (.ref M.length) (M ++ [.dic (kvI b)]) := by
  show wO (match kvsD (b.map pairD) with
    | some kvs => .ok (.ref M.length) (M ++ [.dic (mergeA [] kvs)])
    | none => .st) P = _
  rw [kvsD_pairs]
  have := merge_kv b (a := []) (by simpa using h.dst)
  simp only [List.nil_append] at this
  show P _ (M ++ [.dic (mergeA [] (kvI b))]) = _
  rw [show mergeA [] (kvI b) = kvI b from this]
end DL

namespace DL
open PySem L2
/-! ### equality of data -/
mutual
/-- data of None, truth values, ints, texts, tuples, lists -/
def okD : D → Bool
  | .non => true
  | .bl _ => true
  | .int _ => true
  | .str x => PyData.strOk x
  | .tup xs => okDs xs
  | .itm xs => okDs xs
  | .lst xs => okDs xs
  | .fzl xs => okDs xs
  | .ref _ => false
  | .glo _ => false
  | .ty _ => false
  | .inst _ _ => false
  | .dcv _ => false
def okDs : List D → Bool
  | [] => true
  | x :: xs => okD x && okDs xs
end
mutual
def dpD : D → Nat
  | .tup xs => dpDs xs + 1
  | .itm xs => dpDs xs + 1
  | .lst xs => dpDs xs + 1
  | .fzl xs => dpDs xs + 1
  | .non => 0
  | .bl _ => 0
  | .int _ => 0
  | .str _ => 0
  | .ref _ => 0
  | .glo _ => 0
  | .ty _ => 0
  | .inst _ _ => 0
  | .dcv _ => 0
def dpDs : List D → Nat
  | [] => 0
  | x :: xs => max (dpD x) (dpDs xs)
end
mutual
def eqvD : D → D → Bool
  | .non, .non => true
  | .bl a, .bl b => a == b
  | .bl a, .int j => (if a then 1 else 0) == j
  | .int i, .bl b => i == (if b then 1 else 0)
  | .int i, .int j => i == j
  | .str x, .str y => x == y
  | .lst xs, .lst ys => eqvDs xs ys
  | .lst xs, .fzl ys => eqvDs xs ys
  | .fzl xs, .lst ys => eqvDs xs ys
  | .fzl xs, .fzl ys => eqvDs xs ys
  | .tup xs, .tup ys => eqvDs xs ys
  | .tup xs, .itm ys => eqvDs xs ys
  | .itm xs, .tup ys => eqvDs xs ys
  | .itm xs, .itm ys => eqvDs xs ys
  | _, _ => false
def eqvDs : List D → List D → Bool
  | [], [] => true
  | x :: xs, y :: ys => eqvD x y && eqvDs xs ys
  | _, _ => false
end
mutual
theorem toP_ok : ∀ {d : D}, okD d = true → ∃ p, toP d = some p ∧ p.canLay0 = true ∧ p.depth = dpD d
  | .non, _ => ⟨.none, rfl, by simp [PyData.canLay0], by simp [PyData.depth, dpD]⟩
  | .bl b, _ => ⟨.bool b, rfl, by simp [PyData.canLay0], by simp [PyData.depth, dpD]⟩
  | .int i, _ => ⟨.int i, rfl, by simp [PyData.canLay0], by simp [PyData.depth, dpD]⟩
  | .str x, h => ⟨.str x, rfl, by simpa [PyData.canLay0, okD] using h, by simp [PyData.depth, dpD]⟩
  | .tup xs, h => by
    obtain ⟨p, e, c, q⟩ := toPs_ok (show okDs xs = true by simpa [okD] using h)
    exact ⟨.tuple p, by simp [toP, e], by simpa [PyData.canLay0] using c, by simp [PyData.depth, dpD, q, Nat.add_comm]⟩
  | .itm xs, h => by
    obtain ⟨p, e, c, q⟩ := toPs_ok (show okDs xs = true by simpa [okD] using h)
    exact ⟨.tuple p, by simp [toP, e], by simpa [PyData.canLay0] using c, by simp [PyData.depth, dpD, q, Nat.add_comm]⟩
  | .lst xs, h => by
    obtain ⟨p, e, c, q⟩ := toPs_ok (show okDs xs = true by simpa [okD] using h)
    exact ⟨.list p, by simp [toP, e], by simpa [PyData.canLay0] using c, by simp [PyData.depth, dpD, q, Nat.add_comm]⟩
  | .fzl xs, h => by
    obtain ⟨p, e, c, q⟩ := toPs_ok (show okDs xs = true by simpa [okD] using h)
    exact ⟨.list p, by simp [toP, e], by simpa [PyData.canLay0] using c, by simp [PyData.depth, dpD, q, Nat.add_comm]⟩
  | .ref _, h => by simp [okD] at h
  | .glo _, h => by simp [okD] at h
  | .ty _, h => by simp [okD] at h
  | .inst _ _, h => by simp [okD] at h
  | .dcv _, h => by simp [okD] at h
theorem toPs_ok : ∀ {d : List D}, okDs d = true → ∃ p, toPs d = some p ∧ PyData.canLayAll0 p = true ∧ PyData.depthAll p = dpDs d
  | [], _ => ⟨[], rfl, by simp [PyData.canLayAll0], by simp [PyData.depthAll, dpDs]⟩
  | x :: xs, h => by
    have h' : okD x = true ∧ okDs xs = true := by simpa [okDs] using h
    obtain ⟨p, e, c, q⟩ := toP_ok h'.1
    obtain ⟨ps, es, cs, qs⟩ := toPs_ok h'.2
    exact ⟨p :: ps, by simp [toPs, e, es], by simp [PyData.canLayAll0, c, cs], by simp [PyData.depthAll, dpDs, q, qs]⟩
end
mutual
theorem eqv_eq : ∀ {x y : D} {p q : PyData}, toP x = some p → toP y = some q → PyData.eqv p q = eqvD x y := by
  intro x y p q hx hy
  cases x with
  | tup xs =>
    obtain ⟨ps, e, rfl⟩ : ∃ ps, toPs xs = some ps ∧ p = .tuple ps := by
      simp only [toP, Option.map_eq_some_iff] at hx
      obtain ⟨a, b, c⟩ := hx
      exact ⟨a, b, c.symm⟩
    cases y <;> simp only [toP, Option.map_eq_some_iff, Option.some.injEq, reduceCtorEq] at hy
    all_goals first
      | (obtain ⟨qs, e2, rfl⟩ := hy; simp only [PyData.eqv, eqvD]; first | done | exact eqvs_eq e e2)
      | (subst hy; simp only [PyData.eqv, eqvD])
  | itm xs =>
    obtain ⟨ps, e, rfl⟩ : ∃ ps, toPs xs = some ps ∧ p = .tuple ps := by
      simp only [toP, Option.map_eq_some_iff] at hx
      obtain ⟨a, b, c⟩ := hx
      exact ⟨a, b, c.symm⟩
    cases y <;> simp only [toP, Option.map_eq_some_iff, Option.some.injEq, reduceCtorEq] at hy
    all_goals first
      | (obtain ⟨qs, e2, rfl⟩ := hy; simp only [PyData.eqv, eqvD]; first | done | exact eqvs_eq e e2)
      | (subst hy; simp only [PyData.eqv, eqvD])
  | lst xs =>
    obtain ⟨ps, e, rfl⟩ : ∃ ps, toPs xs = some ps ∧ p = .list ps := by
      simp only [toP, Option.map_eq_some_iff] at hx
      obtain ⟨a, b, c⟩ := hx
      exact ⟨a, b, c.symm⟩
    cases y <;> simp only [toP, Option.map_eq_some_iff, Option.some.injEq, reduceCtorEq] at hy
    all_goals first
      | (obtain ⟨qs, e2, rfl⟩ := hy; simp only [PyData.eqv, eqvD]; first | done | exact eqvs_eq e e2)
      | (subst hy; simp only [PyData.eqv, eqvD])
  | fzl xs =>
    obtain ⟨ps, e, rfl⟩ : ∃ ps, toPs xs = some ps ∧ p = .list ps := by
      simp only [toP, Option.map_eq_some_iff] at hx
      obtain ⟨a, b, c⟩ := hx
      exact ⟨a, b, c.symm⟩
    cases y <;> simp only [toP, Option.map_eq_some_iff, Option.some.injEq, reduceCtorEq] at hy
    all_goals first
      | (obtain ⟨qs, e2, rfl⟩ := hy; simp only [PyData.eqv, eqvD]; first | done | exact eqvs_eq e e2)
      | (subst hy; simp only [PyData.eqv, eqvD])
  | non =>
    simp only [toP, Option.some.injEq] at hx
    subst hx
    cases y <;> simp only [toP, Option.map_eq_some_iff, Option.some.injEq, reduceCtorEq] at hy
    all_goals first
      | (obtain ⟨qs, e2, rfl⟩ := hy; simp only [PyData.eqv, eqvD])
      | (subst hy; simp only [PyData.eqv, eqvD])
  | bl b =>
    simp only [toP, Option.some.injEq] at hx
    subst hx
    cases y <;> simp only [toP, Option.map_eq_some_iff, Option.some.injEq, reduceCtorEq] at hy
    all_goals first
      | (obtain ⟨qs, e2, rfl⟩ := hy; simp only [PyData.eqv, eqvD])
      | (subst hy; simp only [PyData.eqv, eqvD])
  | int b =>
    simp only [toP, Option.some.injEq] at hx
    subst hx
    cases y <;> simp only [toP, Option.map_eq_some_iff, Option.some.injEq, reduceCtorEq] at hy
    all_goals first
      | (obtain ⟨qs, e2, rfl⟩ := hy; simp only [PyData.eqv, eqvD])
      | (subst hy; simp only [PyData.eqv, eqvD])
  | str b =>
    simp only [toP, Option.some.injEq] at hx
    subst hx
    cases y <;> simp only [toP, Option.map_eq_some_iff, Option.some.injEq, reduceCtorEq] at hy
    all_goals first
      | (obtain ⟨qs, e2, rfl⟩ := hy; simp only [PyData.eqv, eqvD])
      | (subst hy; simp only [PyData.eqv, eqvD])
  | _ => simp [toP] at hx
theorem eqvs_eq : ∀ {x y : List D} {p q : List PyData}, toPs x = some p → toPs y = some q → PyData.eqvAll p q = eqvDs x y := by
  intro x y p q hx hy
  cases x with
  | nil =>
    simp only [toPs, Option.some.injEq] at hx
    subst hx
    cases y with
    | nil => simp only [toPs, Option.some.injEq] at hy; subst hy; rfl
    | cons b ys =>
      cases h1 : toP b with
      | none => simp [toPs, h1] at hy
      | some z =>
        cases h2 : toPs ys with
        | none => simp [toPs, h1, h2] at hy
        | some zs => simp [toPs, h1, h2] at hy; subst hy; simp only [PyData.eqvAll, eqvDs]
  | cons a xs =>
    cases g1 : toP a with
    | none => simp [toPs, g1] at hx
    | some u =>
      cases g2 : toPs xs with
      | none => simp [toPs, g1, g2] at hx
      | some us =>
        simp [toPs, g1, g2] at hx
        subst hx
        cases y with
        | nil => simp only [toPs, Option.some.injEq] at hy; subst hy; simp only [PyData.eqvAll, eqvDs]
        | cons b ys =>
          cases h1 : toP b with
          | none => simp [toPs, h1] at hy
          | some z =>
            cases h2 : toPs ys with
            | none => simp [toPs, h1, h2] at hy
            | some zs =>
              simp [toPs, h1, h2] at hy
              subst hy
              simp only [PyData.eqvAll, eqvDs]
              rw [eqv_eq g1 h1, eqvs_eq g2 h2]
end
/-- shaped as == asks for -/
def shD (d : D) : Bool := okD d && decide (dpD d ≤ 64)
theorem eqD_eq {x y : D} (hx : shD x = true) (hy : shD y = true) : eqD x y = some (eqvD x y) := by
  obtain ⟨x1, x2⟩ := Bool.and_eq_true_iff.mp hx
  obtain ⟨y1, y2⟩ := Bool.and_eq_true_iff.mp hy
  obtain ⟨p, ep, cp, qp⟩ := toP_ok x1
  obtain ⟨q, eq, cq, qq⟩ := toP_ok y1
  unfold eqD
  rw [ep, eq]
  have s1 : SeqAt.shaped p = true := by unfold SeqAt.shaped; rw [cp, qp, x2]; rfl
  have s2 : SeqAt.shaped q = true := by unfold SeqAt.shaped; rw [cq, qq, y2]; rfl
  simp only [s1, s2, Bool.and_self, if_true]
  rw [eqv_eq ep eq]
theorem w_ne {x y : D} {M : Mem} {P : D → Mem → Prop} (hx : shD (valD M x) = true) (hy : shD (valD M y) = true) : wO (gNe x y M) P = P (.bl (!eqvD (valD M x) (valD M y))) M := by
  unfold gNe
  rw [eqD_eq hx hy]
  rfl
theorem w_eqI {i j : Int} {M : Mem} {P : D → Mem → Prop} : wO (gEq (.int i) (.int j) M) P = P (.bl (i == j)) M := rfl
theorem w_neI {i j : Int} {M : Mem} {P : D → Mem → Prop} : wO (gNe (.int i) (.int j) M) P = P (.bl (!(i == j))) M := rfl
/-! lists of ints, pairs -/
theorem ok_ints : ∀ ns : List Int, okDs (ns.map D.int) = true ∧ dpDs (ns.map D.int) = 0
  | [] => ⟨rfl, rfl⟩
  | n :: ns => by
    obtain ⟨h1, h2⟩ := ok_ints ns
    exact ⟨by simp [okDs, okD, h1], by simp [dpDs, dpD, h2]⟩
theorem eqv_ints : ∀ a b : List Int, eqvDs (a.map D.int) (b.map D.int) = decide (a = b)
  | [], [] => rfl
  | [], _ :: _ => rfl
  | _ :: _, [] => rfl
  | x :: a, y :: b => by
    have e : eqvDs ((x :: a).map D.int) ((y :: b).map D.int) = ((x == y) && eqvDs (a.map D.int) (b.map D.int)) := rfl
    rw [e, eqv_ints a b]
    by_cases h : x = y <;> by_cases h2 : a = b <;> simp [h, h2]
theorem sh_ints (b : List Int) : shD (.lst (b.map D.int)) = true := by
  obtain ⟨h1, h2⟩ := ok_ints b
  refine Bool.and_eq_true_iff.mpr ⟨h1, decide_eq_true ?_⟩
  show dpDs (b.map D.int) + 1 ≤ 64
  omega
theorem w_neNil {ns : List Int} {l : Nat} {M : Mem} {P : D → Mem → Prop} (h : M[l]? = some (.lst (ns.map D.int))) : wO (gNe (.ref l) (.lst []) M) P = P (.bl (!decide (ns = []))) M := by
  have e1 : valD M (.ref l) = .lst (ns.map D.int) := by unfold valD; simp only [h]
  have h1 : shD (valD M (.ref l)) = true := by rw [e1]; exact sh_ints ns
  rw [w_ne (x := .ref l) (y := .lst []) (M := M) h1 rfl, e1]
  show P (.bl (!eqvDs (ns.map D.int) (([] : List Int).map D.int))) _ = _
  rw [eqv_ints]
end DL

namespace DL
open PySem L2
theorem wI_bind {r : Out} {k : D → Mem → OutI} {P : List D → (Mem → Bool) → Mem → Prop} : wI (r.bindI k) P = wO r fun d M => wI (k d M) P := by cases r <;> rfl
def itD (d : D) (M : Mem) : OutI := match d with
  | .tup xs => .ok xs cYes M
  | .itm xs => .ok xs cYes M
  | d => match derefL M d with
    | some xs => .ok xs (chkL d xs) M
    | none => .st
theorem w_iA {f : Ev} {env : Env} {M : Mem} {P : List D → (Mem → Bool) → Mem → Prop} : wI (iA f env M) P = wO (f env M) fun d M => wI (itD d M) P := wI_bind
theorem w_itT {xs : List D} {M : Mem} {P : List D → (Mem → Bool) → Mem → Prop} : wI (itD (.tup xs) M) P = P xs cYes M := rfl
theorem w_itL {xs : List D} {M : Mem} {P : List D → (Mem → Bool) → Mem → Prop} : wI (itD (.lst xs) M) P = P xs cYes M := rfl
theorem w_itB {b : Bag} {M : Mem} {P : List D → (Mem → Bool) → Mem → Prop} : wI (itD (bagD b) M) P = P (b.map pairD) cYes M := rfl
theorem w_cmt {c : Str} {F : Fn} {fl : EvL} {env : Env} {M : Mem} {P : D → Mem → Prop} : wO (eCmt c F fl env M) P = wL (fl env M) fun ds M => wO (callF F (.glo c :: ds) M) P := by
  unfold eCmt
  cases fl env M <;> rfl
theorem wO_eq {r : Out} {d : D} {M : Mem} {P : D → Mem → Prop} (h : r = .ok d M) : wO r P = P d M := by rw [h]; rfl
/-- what a def gives for plain data, by its run -/
theorem callP_eq {F : Fn} {ds : List D} {r : D} {M : Mem} (hp : puresD ds = true) (hr : pureD r = true) (h : wO (F ds []) fun d _ => d = r) : callF F ds M = .ok r M := by
  obtain ⟨d, M1, e, rfl, e2⟩ := wO_ex (w_callP (P := fun d M1 => d = r ∧ M1 = M) hp (wO_mono h fun d M1 e => ⟨by rw [e]; exact hr, e, rfl⟩))
  rw [e, e2]
theorem callM_eq {F : Fn} {ds : List D} {r : D} {M : Mem} (hp : puresD ds = false) (hr : pureD r = true) (h : wO (F ds M) fun d M1 => d = r ∧ M1.take M.length = M) (hm : M.all pureOb = true) : callF F ds M = .ok r M := by
  obtain ⟨d, M1, e, rfl, e2⟩ := wO_ex (w_callM (P := fun d M1 => d = r ∧ M1 = M) hp (wO_mono h fun d M1 e => ⟨by rw [e.1]; exact hr, by rw [e.2]; exact hm, e⟩))
  rw [e, e2]
theorem pure_cons {d : D} {ds : List D} (h : pureD d = true) (h2 : puresD ds = true) : puresD (d :: ds) = true := by
  show (pureD d && puresD ds) = true
  rw [h, h2]; rfl
theorem pr_at {b : Bag} {i : Nat} {d : D} (h : (b.map pairD)[i]? = some d) : ∃ p, b[i]? = some p ∧ d = .tup [.int p.1, .int p.2] := by
  rw [List.getElem?_map] at h
  cases e : b[i]? with
  | none => simp [e] at h
  | some p => rw [e] at h; cases h; exact ⟨p, rfl, rfl⟩
theorem drop_at {α : Type} {b : List α} {i : Nat} {p : α} (h : b[i]? = some p) : b.drop i = p :: b.drop (i + 1) := by
  obtain ⟨h1, h2⟩ := List.getElem?_eq_some_iff.mp h
  rw [← h2]
  exact List.drop_eq_getElem_cons h1
theorem pb (b : Bag) : pureD (bagD b) = true := pure_bag b
theorem lt_line {n : Nat} (h : n ≤ 4000000) : n < sizeLine := by rw [PySem.sizeLine_eq]; omega
theorem le_line {n : Nat} (h : n ≤ 4000000) : n ≤ sizeLine := by rw [PySem.sizeLine_eq]; omega
end DL
namespace HL
open PySem DL
/-! ### the smallest, the others -/
theorem takeB_cons (l : Int) (p : Int × Int) (b : Bag) : takeB l (p :: b) = if 0 < l then (p.1, min l p.2) :: takeB (l - min l p.2) b else takeB l b := rfl
theorem dropB_cons (l : Int) (p : Int × Int) (b : Bag) : dropB l (p :: b) = if min l p.2 < p.2 then (p.1, p.2 - min l p.2) :: dropB (l - min l p.2) b else dropB (l - min l p.2) b := rfl
theorem e_take {b : Bag} {n : Int} {M : Mem} (z : b.length ≤ 4000000) : callF F_bags_take [bagD b, .int n] M = .ok (bagD (takeB n b)) M := by
  refine callP_eq (pure_cons (pb _) rfl) (pb _) ?_
  simp only [F_bags_take, c_bags_take, c_bags_take_1, c_bags_take_2, c_bags_take_3, c_bags_take_4, w_defn1, w_defn2, w_defn3, w_defn4, w_defn5, w_seq, w_snil, w_asg, w_expr, w_ret, w_retN, w_brk, w_cont, w_sif, ifB_bl, notB_bl, w_gN, w_par, w_par3, w_gsNil, w_gsCons, w_gT2, w_gT3, w_gTi2, w_var0, w_varS, w_c, w_nil, w_cons, w_tup, w_lst, w_new, w_newD, w_op, w_gI, w_add, w_chain, w_not, w_and, w_or, w_if, w_call, w_fn, w_fnN, w_make, w_neg, w_negI, w_t20, w_t21, w_t30, w_t31, w_t32, w_min2, w_max2, w_lenT, w_for, w_iA, wO_ok, w_cmt, List.map, List.replicate, List.set, List.append, wipeE, decide_eq_true_eq, Bool.not_true, Bool.not_false, Bool.false_eq_true, if_true, if_false, Bool.not_eq_true, decide_eq_false_iff_not, Bool.true_eq_false, reduceIte, decide_true, decide_false, Nat.reduceSub, Nat.add_zero, w_itB]
  refine w_forD (fun i e M => ∃ (l : Int) (t : Bag), e = [none, none, some (.int l), some (.ref 0), none, none] ∧ M = [.lst (t.map pairD)] ∧ t ++ takeB l (b.drop i) = takeB n b ∧ t.length ≤ i) ⟨n, [], rfl, rfl, rfl, Nat.le_refl _⟩ (fun _ _ _ _ => rfl) ?_ ?_
  · rintro i d e M hd ⟨l, t, rfl, rfl, ht, hl⟩
    obtain ⟨p, hp, rfl⟩ := pr_at hd
    have hi : i < b.length := (List.getElem?_eq_some_iff.mp hp).1
    rw [drop_at hp] at ht
    rw [takeB_cons] at ht
    simp only [w_defn1, w_defn2, w_defn3, w_defn4, w_defn5, w_seq, w_snil, w_asg, w_expr, w_ret, w_retN, w_brk, w_cont, w_sif, ifB_bl, notB_bl, w_gN, w_par, w_par3, w_gsNil, w_gsCons, w_gT2, w_gT3, w_gTi2, w_var0, w_varS, w_c, w_nil, w_cons, w_tup, w_lst, w_new, w_newD, w_op, w_gI, w_add, w_chain, w_not, w_and, w_or, w_if, w_call, w_fn, w_fnN, w_make, w_neg, w_negI, w_t20, w_t21, w_t30, w_t31, w_t32, w_min2, w_max2, w_lenT, w_for, w_iA, wO_ok, w_cmt, List.map, List.replicate, List.set, List.append, wipeE, decide_eq_true_eq, Bool.not_true, Bool.not_false, Bool.false_eq_true, if_true, if_false, Bool.not_eq_true, decide_eq_false_iff_not, Bool.true_eq_false, reduceIte, decide_true, decide_false, Nat.reduceSub, Nat.add_zero, w_app]
    split
    · rename_i hl0
      rw [if_pos hl0] at ht
      rw [w_appR (ys := t.map pairD) rfl]
      simp only [w_defn1, w_defn2, w_defn3, w_defn4, w_defn5, w_seq, w_snil, w_asg, w_expr, w_ret, w_retN, w_brk, w_cont, w_sif, ifB_bl, notB_bl, w_gN, w_par, w_par3, w_gsNil, w_gsCons, w_gT2, w_gT3, w_gTi2, w_var0, w_varS, w_c, w_nil, w_cons, w_tup, w_lst, w_new, w_newD, w_op, w_gI, w_add, w_chain, w_not, w_and, w_or, w_if, w_call, w_fn, w_fnN, w_make, w_neg, w_negI, w_t20, w_t21, w_t30, w_t31, w_t32, w_min2, w_max2, w_lenT, w_for, w_iA, wO_ok, w_cmt, List.map, List.replicate, List.set, List.append, wipeE, decide_eq_true_eq, Bool.not_true, Bool.not_false, Bool.false_eq_true, if_true, if_false, Bool.not_eq_true, decide_eq_false_iff_not, Bool.true_eq_false, reduceIte, decide_true, decide_false, Nat.reduceSub, Nat.add_zero]
      refine ⟨by simp; exact lt_line (by omega), ?_⟩
      rw [w_aug (d := .int l) rfl]
      simp only [w_defn1, w_defn2, w_defn3, w_defn4, w_defn5, w_seq, w_snil, w_asg, w_expr, w_ret, w_retN, w_brk, w_cont, w_sif, ifB_bl, notB_bl, w_gN, w_par, w_par3, w_gsNil, w_gsCons, w_gT2, w_gT3, w_gTi2, w_var0, w_varS, w_c, w_nil, w_cons, w_tup, w_lst, w_new, w_newD, w_op, w_gI, w_add, w_chain, w_not, w_and, w_or, w_if, w_call, w_fn, w_fnN, w_make, w_neg, w_negI, w_t20, w_t21, w_t30, w_t31, w_t32, w_min2, w_max2, w_lenT, w_for, w_iA, wO_ok, w_cmt, List.map, List.replicate, List.set, List.append, wipeE, decide_eq_true_eq, Bool.not_true, Bool.not_false, Bool.false_eq_true, if_true, if_false, Bool.not_eq_true, decide_eq_false_iff_not, Bool.true_eq_false, reduceIte, decide_true, decide_false, Nat.reduceSub, Nat.add_zero]
      rw [w_ixR (l := 0) (xs := t.map pairD ++ [.tup [.int p.1, .int (min l p.2)]]) (d := .tup [.int p.1, .int (min l p.2)]) rfl (atI_last _ _)]
      simp only [w_defn1, w_defn2, w_defn3, w_defn4, w_defn5, w_seq, w_snil, w_asg, w_expr, w_ret, w_retN, w_brk, w_cont, w_sif, ifB_bl, notB_bl, w_gN, w_par, w_par3, w_gsNil, w_gsCons, w_gT2, w_gT3, w_gTi2, w_var0, w_varS, w_c, w_nil, w_cons, w_tup, w_lst, w_new, w_newD, w_op, w_gI, w_add, w_chain, w_not, w_and, w_or, w_if, w_call, w_fn, w_fnN, w_make, w_neg, w_negI, w_t20, w_t21, w_t30, w_t31, w_t32, w_min2, w_max2, w_lenT, w_for, w_iA, wO_ok, w_cmt, List.map, List.replicate, List.set, List.append, wipeE, decide_eq_true_eq, Bool.not_true, Bool.not_false, Bool.false_eq_true, if_true, if_false, Bool.not_eq_true, decide_eq_false_iff_not, Bool.true_eq_false, reduceIte, decide_true, decide_false, Nat.reduceSub, Nat.add_zero]
      exact ⟨l - min l p.2, t ++ [(p.1, min l p.2)], rfl, by simp [pairD], by rw [← ht]; simp, by simp; omega⟩
    · rename_i hl0
      rw [if_neg hl0] at ht
      exact ⟨l, t, rfl, rfl, ht, by omega⟩
  · rintro e M ⟨l, t, rfl, rfl, ht, hl⟩
    have e1 : b.drop (b.map pairD).length = [] := by simp
    rw [e1] at ht
    simp only [w_defn1, w_defn2, w_defn3, w_defn4, w_defn5, w_seq, w_snil, w_asg, w_expr, w_ret, w_retN, w_brk, w_cont, w_sif, ifB_bl, notB_bl, w_gN, w_par, w_par3, w_gsNil, w_gsCons, w_gT2, w_gT3, w_gTi2, w_var0, w_varS, w_c, w_nil, w_cons, w_tup, w_lst, w_new, w_newD, w_op, w_gI, w_add, w_chain, w_not, w_and, w_or, w_if, w_call, w_fn, w_fnN, w_make, w_neg, w_negI, w_t20, w_t21, w_t30, w_t31, w_t32, w_min2, w_max2, w_lenT, w_for, w_iA, wO_ok, w_cmt, List.map, List.replicate, List.set, List.append, wipeE, decide_eq_true_eq, Bool.not_true, Bool.not_false, Bool.false_eq_true, if_true, if_false, Bool.not_eq_true, decide_eq_false_iff_not, Bool.true_eq_false, reduceIte, decide_true, decide_false, Nat.reduceSub, Nat.add_zero]
    rw [w_tupR (xs := t.map pairD) rfl]
    have : t = takeB n b := by simpa [takeB] using ht
    rw [this]
    rfl
theorem e_drop {b : Bag} {n : Int} {M : Mem} (z : b.length ≤ 4000000) : callF F_bags_drop [bagD b, .int n] M = .ok (bagD (dropB n b)) M := by
  refine callP_eq (pure_cons (pb _) rfl) (pb _) ?_
  simp only [F_bags_drop, c_bags_drop, c_bags_drop_1, c_bags_drop_2, c_bags_drop_3, c_bags_drop_4, c_bags_drop_5, w_defn1, w_defn2, w_defn3, w_defn4, w_defn5, w_seq, w_snil, w_asg, w_expr, w_ret, w_retN, w_brk, w_cont, w_sif, ifB_bl, notB_bl, w_gN, w_par, w_par3, w_gsNil, w_gsCons, w_gT2, w_gT3, w_gTi2, w_var0, w_varS, w_c, w_nil, w_cons, w_tup, w_lst, w_new, w_newD, w_op, w_gI, w_add, w_chain, w_not, w_and, w_or, w_if, w_call, w_fn, w_fnN, w_make, w_neg, w_negI, w_t20, w_t21, w_t30, w_t31, w_t32, w_min2, w_max2, w_lenT, w_for, w_iA, wO_ok, w_cmt, List.map, List.replicate, List.set, List.append, wipeE, decide_eq_true_eq, Bool.not_true, Bool.not_false, Bool.false_eq_true, if_true, if_false, Bool.not_eq_true, decide_eq_false_iff_not, Bool.true_eq_false, reduceIte, decide_true, decide_false, Nat.reduceSub, Nat.add_zero, w_itB]
  refine w_forD (fun i e M => ∃ (l : Int) (t : Bag), e = [none, none, some (.int l), some (.ref 0), none, none, none] ∧ M = [.lst (t.map pairD)] ∧ t ++ dropB l (b.drop i) = dropB n b ∧ t.length ≤ i) ⟨n, [], rfl, rfl, rfl, Nat.le_refl _⟩ (fun _ _ _ _ => rfl) ?_ ?_
  · rintro i d e M hd ⟨l, t, rfl, rfl, ht, hl⟩
    obtain ⟨p, hp, rfl⟩ := pr_at hd
    have hi : i < b.length := (List.getElem?_eq_some_iff.mp hp).1
    rw [drop_at hp, dropB_cons] at ht
    simp only [w_defn1, w_defn2, w_defn3, w_defn4, w_defn5, w_seq, w_snil, w_asg, w_expr, w_ret, w_retN, w_brk, w_cont, w_sif, ifB_bl, notB_bl, w_gN, w_par, w_par3, w_gsNil, w_gsCons, w_gT2, w_gT3, w_gTi2, w_var0, w_varS, w_c, w_nil, w_cons, w_tup, w_lst, w_new, w_newD, w_op, w_gI, w_add, w_chain, w_not, w_and, w_or, w_if, w_call, w_fn, w_fnN, w_make, w_neg, w_negI, w_t20, w_t21, w_t30, w_t31, w_t32, w_min2, w_max2, w_lenT, w_for, w_iA, wO_ok, w_cmt, List.map, List.replicate, List.set, List.append, wipeE, decide_eq_true_eq, Bool.not_true, Bool.not_false, Bool.false_eq_true, if_true, if_false, Bool.not_eq_true, decide_eq_false_iff_not, Bool.true_eq_false, reduceIte, decide_true, decide_false, Nat.reduceSub, Nat.add_zero, w_app]
    rw [w_aug (d := .int l) rfl]
    simp only [w_defn1, w_defn2, w_defn3, w_defn4, w_defn5, w_seq, w_snil, w_asg, w_expr, w_ret, w_retN, w_brk, w_cont, w_sif, ifB_bl, notB_bl, w_gN, w_par, w_par3, w_gsNil, w_gsCons, w_gT2, w_gT3, w_gTi2, w_var0, w_varS, w_c, w_nil, w_cons, w_tup, w_lst, w_new, w_newD, w_op, w_gI, w_add, w_chain, w_not, w_and, w_or, w_if, w_call, w_fn, w_fnN, w_make, w_neg, w_negI, w_t20, w_t21, w_t30, w_t31, w_t32, w_min2, w_max2, w_lenT, w_for, w_iA, wO_ok, w_cmt, List.map, List.replicate, List.set, List.append, wipeE, decide_eq_true_eq, Bool.not_true, Bool.not_false, Bool.false_eq_true, if_true, if_false, Bool.not_eq_true, decide_eq_false_iff_not, Bool.true_eq_false, reduceIte, decide_true, decide_false, Nat.reduceSub, Nat.add_zero, w_app]
    split
    · rename_i hl0
      rw [if_pos hl0] at ht
      rw [w_appR (ys := t.map pairD) rfl]
      simp only [w_defn1, w_defn2, w_defn3, w_defn4, w_defn5, w_seq, w_snil, w_asg, w_expr, w_ret, w_retN, w_brk, w_cont, w_sif, ifB_bl, notB_bl, w_gN, w_par, w_par3, w_gsNil, w_gsCons, w_gT2, w_gT3, w_gTi2, w_var0, w_varS, w_c, w_nil, w_cons, w_tup, w_lst, w_new, w_newD, w_op, w_gI, w_add, w_chain, w_not, w_and, w_or, w_if, w_call, w_fn, w_fnN, w_make, w_neg, w_negI, w_t20, w_t21, w_t30, w_t31, w_t32, w_min2, w_max2, w_lenT, w_for, w_iA, wO_ok, w_cmt, List.map, List.replicate, List.set, List.append, wipeE, decide_eq_true_eq, Bool.not_true, Bool.not_false, Bool.false_eq_true, if_true, if_false, Bool.not_eq_true, decide_eq_false_iff_not, Bool.true_eq_false, reduceIte, decide_true, decide_false, Nat.reduceSub, Nat.add_zero]
      exact ⟨by simp; exact lt_line (by omega), l - min l p.2, t ++ [(p.1, p.2 - min l p.2)], rfl, by simp [pairD], by rw [← ht]; simp, by simp; omega⟩
    · rename_i hl0
      rw [if_neg hl0] at ht
      exact ⟨l - min l p.2, t, rfl, rfl, ht, by omega⟩
  · rintro e M ⟨l, t, rfl, rfl, ht, hl⟩
    have e1 : b.drop (b.map pairD).length = [] := by simp
    rw [e1] at ht
    simp only [w_defn1, w_defn2, w_defn3, w_defn4, w_defn5, w_seq, w_snil, w_asg, w_expr, w_ret, w_retN, w_brk, w_cont, w_sif, ifB_bl, notB_bl, w_gN, w_par, w_par3, w_gsNil, w_gsCons, w_gT2, w_gT3, w_gTi2, w_var0, w_varS, w_c, w_nil, w_cons, w_tup, w_lst, w_new, w_newD, w_op, w_gI, w_add, w_chain, w_not, w_and, w_or, w_if, w_call, w_fn, w_fnN, w_make, w_neg, w_negI, w_t20, w_t21, w_t30, w_t31, w_t32, w_min2, w_max2, w_lenT, w_for, w_iA, wO_ok, w_cmt, List.map, List.replicate, List.set, List.append, wipeE, decide_eq_true_eq, Bool.not_true, Bool.not_false, Bool.false_eq_true, if_true, if_false, Bool.not_eq_true, decide_eq_false_iff_not, Bool.true_eq_false, reduceIte, decide_true, decide_false, Nat.reduceSub, Nat.add_zero]
    rw [w_tupR (xs := t.map pairD) rfl]
    have : t = dropB n b := by simpa [dropB] using ht
    rw [this]
    rfl
/-! ### sums -/
theorem fm_snd (b : Bag) (g : D → Option D) (hg : ∀ p : Int × Int, g (pairD p) = some (.int p.2)) : (b.map pairD).filterMap g = (b.map (·.2)).map D.int := by
  induction b with
  | nil => rfl
  | cons p b ih => rw [List.map_cons, List.filterMap_cons, hg p, ih]; rfl
theorem tot_sum : ∀ b : Bag, (b.map (·.2)).sum = tot b
  | [] => rfl
  | p :: b => by show p.2 + (b.map (·.2)).sum = _; rw [tot_sum b]; rfl
def gSnd : D → Option D
  | .tup [_, y] => some y
  | _ => none
theorem e_total {b : Bag} {M : Mem} (z : b.length ≤ 4000000) : callF F_bags_total [bagD b] M = .ok (.int (tot b)) M := by
  refine callP_eq (pure_cons (pb _) rfl) rfl ?_
  simp only [F_bags_total, c_bags_total, w_defn1, w_defn2, w_defn3, w_defn4, w_defn5, w_seq, w_snil, w_asg, w_expr, w_ret, w_retN, w_brk, w_cont, w_sif, ifB_bl, notB_bl, w_gN, w_par, w_par3, w_gsNil, w_gsCons, w_gT2, w_gT3, w_gTi2, w_var0, w_varS, w_c, w_nil, w_cons, w_tup, w_lst, w_new, w_newD, w_op, w_gI, w_add, w_chain, w_not, w_and, w_or, w_if, w_call, w_fn, w_fnN, w_make, w_neg, w_negI, w_t20, w_t21, w_t30, w_t31, w_t32, w_min2, w_max2, w_lenT, w_for, w_iA, wO_ok, w_cmt, List.map, List.replicate, List.set, List.append, wipeE, decide_eq_true_eq, Bool.not_true, Bool.not_false, Bool.false_eq_true, if_true, if_false, Bool.not_eq_true, decide_eq_false_iff_not, Bool.true_eq_false, reduceIte, decide_true, decide_false, Nat.reduceSub, Nat.add_zero]
  rw [w_lc (ds := b.map pairD) (chk := cYes) (M1 := []) gSnd (by simp only [w_iA, w_var0, w_itB, and_self]) (by simp; exact le_line z) rfl]
  · rw [fm_snd b gSnd (fun _ => rfl), w_sumL, tot_sum]
  · intro d hd
    obtain ⟨p, _, rfl⟩ := List.mem_map.mp hd
    simp only [pairD, w_defn1, w_defn2, w_defn3, w_defn4, w_defn5, w_seq, w_snil, w_asg, w_expr, w_ret, w_retN, w_brk, w_cont, w_sif, ifB_bl, notB_bl, w_gN, w_par, w_par3, w_gsNil, w_gsCons, w_gT2, w_gT3, w_gTi2, w_var0, w_varS, w_c, w_nil, w_cons, w_tup, w_lst, w_new, w_newD, w_op, w_gI, w_add, w_chain, w_not, w_and, w_or, w_if, w_call, w_fn, w_fnN, w_make, w_neg, w_negI, w_t20, w_t21, w_t30, w_t31, w_t32, w_min2, w_max2, w_lenT, w_for, w_iA, wO_ok, w_cmt, List.map, List.replicate, List.set, List.append, wipeE, decide_eq_true_eq, Bool.not_true, Bool.not_false, Bool.false_eq_true, if_true, if_false, Bool.not_eq_true, decide_eq_false_iff_not, Bool.true_eq_false, reduceIte, decide_true, decide_false, Nat.reduceSub, Nat.add_zero]
    exact ⟨rfl, .inl ⟨rfl, rfl, rfl⟩⟩
def gLow (n : Int) : D → Option D
  | .tup [.int x, .int y] => if x ≤ n then some (.int y) else none
  | _ => none
/-! ### bags from dicts -/
theorem pairsD_map : ∀ b : Bag, pairsD (b.map pairD) = some b
  | [] => rfl
  | p :: b => by
    show (pairsD (b.map pairD)).map (p :: ·) = _
    rw [pairsD_map b]
    rfl
theorem w_sortedP {b : Bag} {M : Mem} {P : D → Mem → Prop} : wO (nSorted [.lst (b.map pairD)] M) P = P (.lst ((sortP b).map pairD)) M := by
  cases b with
  | nil => rfl
  | cons p b =>
    have h1 : nSortI [.lst ((p :: b).map pairD)] M = .st := rfl
    have h2 : (readL M [.lst ((p :: b).map pairD)]).bind pairsD = some (p :: b) := pairsD_map (p :: b)
    show wO ((nSortI [.lst ((p :: b).map pairD)] M).or (nSortP [.lst ((p :: b).map pairD)] M)) P = _
    rw [h1]
    unfold nSortP
    rw [h2]
    rfl
def gPos : D → Option D
  | .itm [x, .int c] => if 0 < c then some (.tup [x, .int c]) else none
  | _ => none
theorem gPos_eq (p : Int × Int) : gPos (.itm [.int p.1, .int p.2]) = if 0 < p.2 then some (.tup [.int p.1, .int p.2]) else none := rfl
theorem items_kv (b : Bag) : itemsA (kvI b) = b.map fun p => D.itm [.int p.1, .int p.2] := by
  unfold itemsA kvI
  rw [List.map_map]
  rfl
theorem vals_kv (b : Bag) : valsA (kvI b) = b.map fun p => D.int p.2 := by
  unfold valsA kvI
  rw [List.map_map]
  rfl
theorem fm_pos : ∀ b : Bag, (b.map fun p => D.itm [.int p.1, .int p.2]).filterMap gPos = (b.filter fun p => decide (0 < p.2)).map pairD
  | [] => rfl
  | p :: b => by
    rw [List.map_cons, List.filterMap_cons, fm_pos b]
    by_cases e : 0 < p.2
    · rw [List.filter_cons_of_pos (by simpa using e)]
      rw [gPos_eq, if_pos e]
      rfl
    · rw [List.filter_cons_of_neg (by simpa using e)]
      rw [gPos_eq, if_neg e]
theorem pure_kv (b : Bag) : ((kvI b).all fun p => pureD p.2) = true := by
  rw [List.all_eq_true]
  intro q hq
  obtain ⟨p, _, rfl⟩ := List.mem_map.mp hq
  rfl
theorem e_from_counts {b : Bag} {l : Nat} {M : Mem} (hl : M[l]? = some (.dic (kvI b))) (z : b.length ≤ 4000000) (hm : M.all pureOb = true) : callF F_bags_from_counts [.ref l] M = .ok (bagD (canon b)) M := by
  refine callM_eq rfl (pb _) ?_ hm
  simp only [F_bags_from_counts, c_bags_from_counts, w_defn1, w_defn2, w_defn3, w_defn4, w_defn5, w_seq, w_snil, w_asg, w_expr, w_ret, w_retN, w_brk, w_cont, w_sif, ifB_bl, notB_bl, w_gN, w_par, w_par3, w_gsNil, w_gsCons, w_gT2, w_gT3, w_gTi2, w_var0, w_varS, w_c, w_nil, w_cons, w_tup, w_lst, w_new, w_newD, w_op, w_gI, w_add, w_chain, w_not, w_and, w_or, w_if, w_call, w_fn, w_fnN, w_make, w_neg, w_negI, w_t20, w_t21, w_t30, w_t31, w_t32, w_min2, w_max2, w_lenT, w_for, w_iA, wO_ok, w_cmt, List.map, List.replicate, List.set, List.append, wipeE, decide_eq_true_eq, Bool.not_true, Bool.not_false, Bool.false_eq_true, if_true, if_false, Bool.not_eq_true, decide_eq_false_iff_not, Bool.true_eq_false, reduceIte, decide_true, decide_false, Nat.reduceSub, Nat.add_zero]
  rw [w_lcK (l := l) (kvs := kvI b) gPos rfl hl (pure_kv b) (by rw [items_kv]; simp; exact le_line z)]
  · rw [items_kv, fm_pos, w_sortedP, w_tupL]
    exact ⟨rfl, List.take_length⟩
  · intro d hd
    rw [items_kv] at hd
    obtain ⟨p, _, rfl⟩ := List.mem_map.mp hd
    simp only [w_defn1, w_defn2, w_defn3, w_defn4, w_defn5, w_seq, w_snil, w_asg, w_expr, w_ret, w_retN, w_brk, w_cont, w_sif, ifB_bl, notB_bl, w_gN, w_par, w_par3, w_gsNil, w_gsCons, w_gT2, w_gT3, w_gTi2, w_var0, w_varS, w_c, w_nil, w_cons, w_tup, w_lst, w_new, w_newD, w_op, w_gI, w_add, w_chain, w_not, w_and, w_or, w_if, w_call, w_fn, w_fnN, w_make, w_neg, w_negI, w_t20, w_t21, w_t30, w_t31, w_t32, w_min2, w_max2, w_lenT, w_for, w_iA, wO_ok, w_cmt, List.map, List.replicate, List.set, List.append, wipeE, decide_eq_true_eq, Bool.not_true, Bool.not_false, Bool.false_eq_true, if_true, if_false, Bool.not_eq_true, decide_eq_false_iff_not, Bool.true_eq_false, reduceIte, decide_true, decide_false, Nat.reduceSub, Nat.add_zero, envP, pureO, pureD]
    refine ⟨trivial, ?_⟩
    by_cases e : 0 < p.2
    · exact .inl ⟨by rw [decide_eq_true e], trivial, by rw [gPos_eq, if_pos e]⟩
    · exact .inr ⟨by rw [decide_eq_false e], by rw [gPos_eq, if_neg e]⟩
  · rw [items_kv, fm_pos]; exact pures_pairs _
def addB (a b : Bag) : Bag := canon (foldP (· + ·) a b)
def subB (a b : Bag) : Bag := canon (foldP (· - ·) a b)
theorem w_dput {fo fk fv : Ev} {env : DL.Env} {M : Mem} {W : Wi} : wS (sDput fo fk fv env M) W = wO (fv env M) fun v M1 => wO (fo env M1) fun d M2 => wO (fk env M2) fun k M3 => match d, keyD k with
  | .ref l, some k => match M3[l]? with
    | some (.dic kvs) => kvs.length < sizeLine ∧ W.nx env (M3.set l (.dic (putA kvs k v)))
    | _ => False
  | _, _ => False := by
  unfold sDput
  rw [wS_bind]; congr; funext v M1
  rw [wS_bind]; congr; funext d M2
  rw [wS_bind]; congr; funext k M3
  cases d with
  | ref l =>
    cases hk : keyD k with
    | none => rfl
    | some k' =>
      simp only
      cases hm : M3[l]? with
      | none => rfl
      | some ob =>
        cases ob with
        | dic kvs =>
          simp only
          by_cases hz : kvs.length < sizeLine
          · rw [if_pos hz]; simp [hz, wS]
          · rw [if_neg hz]; simp [hz, wS]
        | _ => rfl
  | _ => rfl
theorem w_get {l : Nat} {b : Bag} {k v : Int} {fo fk fx : Ev} {env : DL.Env} {M : Mem} {P : D → Mem → Prop} (h1 : fo env M = .ok (.ref l) M) (h2 : fk env M = .ok (.int k) M) (h3 : fx env M = .ok (.int 0) M) (hl : M[l]? = some (.dic (kvI b))) : wO (eDget2 fo fk fx env M) P = P (.int (getI b k)) M := by
  unfold eDget2
  rw [h1]
  simp only [Out.bind, hl, h2, h3, keyD]
  show P ((getA (kvI b) (.inl k)).getD (.int 0)) M = _
  rw [getA_kv]
theorem dst_fold (f : Int → Int → Int) : ∀ (b : Bag) {a : Bag}, Dst a → Dst (foldP f a b)
  | [], a, h => h
  | p :: b, a, h => dst_fold f b (h.put _ _)
theorem len_put (k v : Int) : ∀ (b : Bag), (putI b k v).length ≤ b.length + 1
  | [] => by simp [putI]
  | p :: b => by
    unfold putI
    split
    · simp
    · simp; exact len_put k v b
theorem e_add {a b : Bag} {M : Mem} (ha : Val a) (z : a.length + b.length ≤ 4000000) : callF F_bags_add [bagD a, bagD b] M = .ok (bagD (addB a b)) M := by
  refine callP_eq (pure_cons (pb _) (pure_cons (pb _) rfl)) (pb _) ?_
  simp only [F_bags_add, c_bags_add, c_bags_add_1, c_bags_add_2, c_bags_add_3, w_defn1, w_defn2, w_defn3, w_defn4, w_defn5, w_seq, w_snil, w_asg, w_expr, w_ret, w_retN, w_brk, w_cont, w_sif, ifB_bl, notB_bl, w_gN, w_par, w_par3, w_gsNil, w_gsCons, w_gT2, w_gT3, w_gTi2, w_var0, w_varS, w_c, w_nil, w_cons, w_tup, w_lst, w_new, w_newD, w_op, w_gI, w_add, w_chain, w_not, w_and, w_or, w_if, w_call, w_fn, w_fnN, w_make, w_neg, w_negI, w_t20, w_t21, w_t30, w_t31, w_t32, w_min2, w_max2, w_lenT, w_for, w_iA, wO_ok, w_cmt, List.map, List.replicate, List.set, List.append, wipeE, decide_eq_true_eq, Bool.not_true, Bool.not_false, Bool.false_eq_true, if_true, if_false, Bool.not_eq_true, decide_eq_false_iff_not, Bool.true_eq_false, reduceIte, decide_true, decide_false, Nat.reduceSub, Nat.add_zero, w_itB, w_dict ha]
  refine w_forD (fun i e M => ∃ t : Bag, e = [none, none, some (.ref 0), none, none] ∧ M = [.dic (kvI t)] ∧ foldP (· + ·) t (b.drop i) = foldP (· + ·) a b ∧ Dst t ∧ t.length ≤ a.length + i) ⟨a, rfl, rfl, rfl, ha.dst, Nat.le_refl _⟩ (fun _ _ _ _ => rfl) ?_ ?_
  · rintro i d e M hd ⟨t, rfl, rfl, ht, hdt, hz⟩
    obtain ⟨p, hp, rfl⟩ := pr_at hd
    have hi : i < b.length := (List.getElem?_eq_some_iff.mp hp).1
    rw [drop_at hp] at ht
    simp only [w_defn1, w_defn2, w_defn3, w_defn4, w_defn5, w_seq, w_snil, w_asg, w_expr, w_ret, w_retN, w_brk, w_cont, w_sif, ifB_bl, notB_bl, w_gN, w_par, w_par3, w_gsNil, w_gsCons, w_gT2, w_gT3, w_gTi2, w_var0, w_varS, w_c, w_nil, w_cons, w_tup, w_lst, w_new, w_newD, w_op, w_gI, w_add, w_chain, w_not, w_and, w_or, w_if, w_call, w_fn, w_fnN, w_make, w_neg, w_negI, w_t20, w_t21, w_t30, w_t31, w_t32, w_min2, w_max2, w_lenT, w_for, w_iA, wO_ok, w_cmt, List.map, List.replicate, List.set, List.append, wipeE, decide_eq_true_eq, Bool.not_true, Bool.not_false, Bool.false_eq_true, if_true, if_false, Bool.not_eq_true, decide_eq_false_iff_not, Bool.true_eq_false, reduceIte, decide_true, decide_false, Nat.reduceSub, Nat.add_zero, w_dput]
    rw [w_get (l := 0) (b := t) (k := p.1) (v := 0) rfl rfl rfl rfl]
    simp only [w_defn1, w_defn2, w_defn3, w_defn4, w_defn5, w_seq, w_snil, w_asg, w_expr, w_ret, w_retN, w_brk, w_cont, w_sif, ifB_bl, notB_bl, w_gN, w_par, w_par3, w_gsNil, w_gsCons, w_gT2, w_gT3, w_gTi2, w_var0, w_varS, w_c, w_nil, w_cons, w_tup, w_lst, w_new, w_newD, w_op, w_gI, w_add, w_chain, w_not, w_and, w_or, w_if, w_call, w_fn, w_fnN, w_make, w_neg, w_negI, w_t20, w_t21, w_t30, w_t31, w_t32, w_min2, w_max2, w_lenT, w_for, w_iA, wO_ok, w_cmt, List.map, List.replicate, List.set, List.append, wipeE, decide_eq_true_eq, Bool.not_true, Bool.not_false, Bool.false_eq_true, if_true, if_false, Bool.not_eq_true, decide_eq_false_iff_not, Bool.true_eq_false, reduceIte, decide_true, decide_false, Nat.reduceSub, Nat.add_zero, keyD, List.getElem?_cons_zero]
    refine ⟨by simp [kvI]; exact lt_line (by omega), putI t p.1 (getI t p.1 + p.2), trivial, ?_, ht, hdt.put _ _, ?_⟩
    · rw [putA_kv hdt]
    · have := len_put p.1 (getI t p.1 + p.2) t
      omega
  · rintro e M ⟨t, rfl, rfl, ht, hdt, hz⟩
    have e1 : b.drop (b.map pairD).length = [] := by simp
    rw [e1] at ht
    have ht : t = foldP (· + ·) a b := ht
    simp only [List.length_map] at hz
    simp only [w_defn1, w_defn2, w_defn3, w_defn4, w_defn5, w_seq, w_snil, w_asg, w_expr, w_ret, w_retN, w_brk, w_cont, w_sif, ifB_bl, notB_bl, w_gN, w_par, w_par3, w_gsNil, w_gsCons, w_gT2, w_gT3, w_gTi2, w_var0, w_varS, w_c, w_nil, w_cons, w_tup, w_lst, w_new, w_newD, w_op, w_gI, w_add, w_chain, w_not, w_and, w_or, w_if, w_call, w_fn, w_fnN, w_make, w_neg, w_negI, w_t20, w_t21, w_t30, w_t31, w_t32, w_min2, w_max2, w_lenT, w_for, w_iA, wO_ok, w_cmt, List.map, List.replicate, List.set, List.append, wipeE, decide_eq_true_eq, Bool.not_true, Bool.not_false, Bool.false_eq_true, if_true, if_false, Bool.not_eq_true, decide_eq_false_iff_not, Bool.true_eq_false, reduceIte, decide_true, decide_false, Nat.reduceSub, Nat.add_zero]
    rw [wO_eq (e_from_counts (b := t) rfl (by omega) (by simp [pureOb, pure_kv])), ht]
    rfl
theorem fm_neg (b : Bag) : ((b.map fun p => D.int p.2).filterMap fun d => match d with
  | .int c => some (.bl (decide (c < 0)))
  | _ => none) = (b.map fun p => decide (p.2 < 0)).map D.bl := by
  induction b with
  | nil => rfl
  | cons p b ih => rw [List.map_cons, List.filterMap_cons, ih]; rfl
theorem puresBl : ∀ bs : List Bool, puresD (bs.map D.bl) = true
  | [] => rfl
  | b :: bs => by show (pureD (.bl b) && puresD (bs.map D.bl)) = true; rw [puresBl bs]; rfl
/-- a holds b -/
def hasB (a b : Bag) : Bool := !(foldP (· - ·) a b).any (fun p => decide (p.2 < 0))
theorem e_subtract {a b : Bag} {M : Mem} (ha : Val a) (z : a.length + b.length ≤ 4000000) : callF F_bags_subtract [bagD a, bagD b] M = .ok (if hasB a b = true then bagD (subB a b) else .non) M := by
  refine callP_eq (pure_cons (pb _) (pure_cons (pb _) rfl)) (by split <;> first | exact pb _ | rfl) ?_
  simp only [F_bags_subtract, c_bags_subtract, c_bags_subtract_1, c_bags_subtract_2, c_bags_subtract_3, w_defn1, w_defn2, w_defn3, w_defn4, w_defn5, w_seq, w_snil, w_asg, w_expr, w_ret, w_retN, w_brk, w_cont, w_sif, ifB_bl, notB_bl, w_gN, w_par, w_par3, w_gsNil, w_gsCons, w_gT2, w_gT3, w_gTi2, w_var0, w_varS, w_c, w_nil, w_cons, w_tup, w_lst, w_new, w_newD, w_op, w_gI, w_add, w_chain, w_not, w_and, w_or, w_if, w_call, w_fn, w_fnN, w_make, w_neg, w_negI, w_t20, w_t21, w_t30, w_t31, w_t32, w_min2, w_max2, w_lenT, w_for, w_iA, wO_ok, w_cmt, List.map, List.replicate, List.set, List.append, wipeE, decide_eq_true_eq, Bool.not_true, Bool.not_false, Bool.false_eq_true, if_true, if_false, Bool.not_eq_true, decide_eq_false_iff_not, Bool.true_eq_false, reduceIte, decide_true, decide_false, Nat.reduceSub, Nat.add_zero, w_itB, w_dict ha]
  refine w_forD (fun i e M => ∃ t : Bag, e = [none, none, some (.ref 0), none, none] ∧ M = [.dic (kvI t)] ∧ foldP (· - ·) t (b.drop i) = foldP (· - ·) a b ∧ Dst t ∧ t.length ≤ a.length + i) ⟨a, rfl, rfl, rfl, ha.dst, Nat.le_refl _⟩ (fun _ _ _ _ => rfl) ?_ ?_
  · rintro i d e M hd ⟨t, rfl, rfl, ht, hdt, hz⟩
    obtain ⟨p, hp, rfl⟩ := pr_at hd
    have hi : i < b.length := (List.getElem?_eq_some_iff.mp hp).1
    rw [drop_at hp] at ht
    simp only [w_defn1, w_defn2, w_defn3, w_defn4, w_defn5, w_seq, w_snil, w_asg, w_expr, w_ret, w_retN, w_brk, w_cont, w_sif, ifB_bl, notB_bl, w_gN, w_par, w_par3, w_gsNil, w_gsCons, w_gT2, w_gT3, w_gTi2, w_var0, w_varS, w_c, w_nil, w_cons, w_tup, w_lst, w_new, w_newD, w_op, w_gI, w_add, w_chain, w_not, w_and, w_or, w_if, w_call, w_fn, w_fnN, w_make, w_neg, w_negI, w_t20, w_t21, w_t30, w_t31, w_t32, w_min2, w_max2, w_lenT, w_for, w_iA, wO_ok, w_cmt, List.map, List.replicate, List.set, List.append, wipeE, decide_eq_true_eq, Bool.not_true, Bool.not_false, Bool.false_eq_true, if_true, if_false, Bool.not_eq_true, decide_eq_false_iff_not, Bool.true_eq_false, reduceIte, decide_true, decide_false, Nat.reduceSub, Nat.add_zero, w_dput]
    rw [w_get (l := 0) (b := t) (k := p.1) (v := 0) rfl rfl rfl rfl]
    simp only [w_defn1, w_defn2, w_defn3, w_defn4, w_defn5, w_seq, w_snil, w_asg, w_expr, w_ret, w_retN, w_brk, w_cont, w_sif, ifB_bl, notB_bl, w_gN, w_par, w_par3, w_gsNil, w_gsCons, w_gT2, w_gT3, w_gTi2, w_var0, w_varS, w_c, w_nil, w_cons, w_tup, w_lst, w_new, w_newD, w_op, w_gI, w_add, w_chain, w_not, w_and, w_or, w_if, w_call, w_fn, w_fnN, w_make, w_neg, w_negI, w_t20, w_t21, w_t30, w_t31, w_t32, w_min2, w_max2, w_lenT, w_for, w_iA, wO_ok, w_cmt, List.map, List.replicate, List.set, List.append, wipeE, decide_eq_true_eq, Bool.not_true, Bool.not_false, Bool.false_eq_true, if_true, if_false, Bool.not_eq_true, decide_eq_false_iff_not, Bool.true_eq_false, reduceIte, decide_true, decide_false, Nat.reduceSub, Nat.add_zero, keyD, List.getElem?_cons_zero]
    refine ⟨by simp [kvI]; exact lt_line (by omega), putI t p.1 (getI t p.1 - p.2), trivial, ?_, ht, hdt.put _ _, ?_⟩
    · rw [putA_kv hdt]
    · have := len_put p.1 (getI t p.1 - p.2) t
      omega
  · rintro e M ⟨t, rfl, rfl, ht, hdt, hz⟩
    have e1 : b.drop (b.map pairD).length = [] := by simp
    rw [e1] at ht
    have ht : t = foldP (· - ·) a b := ht
    simp only [List.length_map] at hz
    simp only [w_defn1, w_defn2, w_defn3, w_defn4, w_defn5, w_seq, w_snil, w_asg, w_expr, w_ret, w_retN, w_brk, w_cont, w_sif, ifB_bl, notB_bl, w_gN, w_par, w_par3, w_gsNil, w_gsCons, w_gT2, w_gT3, w_gTi2, w_var0, w_varS, w_c, w_nil, w_cons, w_tup, w_lst, w_new, w_newD, w_op, w_gI, w_add, w_chain, w_not, w_and, w_or, w_if, w_call, w_fn, w_fnN, w_make, w_neg, w_negI, w_t20, w_t21, w_t30, w_t31, w_t32, w_min2, w_max2, w_lenT, w_for, w_iA, wO_ok, w_cmt, List.map, List.replicate, List.set, List.append, wipeE, decide_eq_true_eq, Bool.not_true, Bool.not_false, Bool.false_eq_true, if_true, if_false, Bool.not_eq_true, decide_eq_false_iff_not, Bool.true_eq_false, reduceIte, decide_true, decide_false, Nat.reduceSub, Nat.add_zero]
    rw [w_lcK (l := 0) (kvs := kvI t) (fun d => match d with
      | .int c => some (.bl (decide (c < 0)))
      | _ => none) rfl rfl (pure_kv t) (by rw [vals_kv]; simp; exact le_line (by omega))]
    · rw [vals_kv, fm_neg, w_anyL, ifB_bl]
      have e2 : (t.map fun p => decide (p.2 < 0)).any id = t.any fun p => decide (p.2 < 0) := by rw [List.any_map]; rfl
      have e3 : hasB a b = !t.any fun p => decide (p.2 < 0) := by unfold hasB; rw [ht]
      rw [e2, e3]
      cases q : t.any fun p => decide (p.2 < 0) with
      | true => simp
      | false =>
        (simp only [Bool.false_eq_true, if_false, Bool.not_false, if_true])
        rw [wO_eq (e_from_counts (b := t) rfl (by omega) (by simp [pureOb, pure_kv])), ht]
        rfl
    · intro d hd
      rw [vals_kv] at hd
      obtain ⟨p, _, rfl⟩ := List.mem_map.mp hd
      simp only [w_defn1, w_defn2, w_defn3, w_defn4, w_defn5, w_seq, w_snil, w_asg, w_expr, w_ret, w_retN, w_brk, w_cont, w_sif, ifB_bl, notB_bl, w_gN, w_par, w_par3, w_gsNil, w_gsCons, w_gT2, w_gT3, w_gTi2, w_var0, w_varS, w_c, w_nil, w_cons, w_tup, w_lst, w_new, w_newD, w_op, w_gI, w_add, w_chain, w_not, w_and, w_or, w_if, w_call, w_fn, w_fnN, w_make, w_neg, w_negI, w_t20, w_t21, w_t30, w_t31, w_t32, w_min2, w_max2, w_lenT, w_for, w_iA, wO_ok, w_cmt, List.map, List.replicate, List.set, List.append, wipeE, decide_eq_true_eq, Bool.not_true, Bool.not_false, Bool.false_eq_true, if_true, if_false, Bool.not_eq_true, decide_eq_false_iff_not, Bool.true_eq_false, reduceIte, decide_true, decide_false, Nat.reduceSub, Nat.add_zero, envP, pureO, pureD, fYes]
      exact ⟨trivial, .inl ⟨trivial, trivial, trivial⟩⟩
    · rw [vals_kv, fm_neg]; exact puresBl _
/-! ### tests -/
theorem w_ty {d : D} {n t : String} {b : Bool} {M : Mem} {P : D → Mem → Prop} (h : tyD M d = some t) (hb : L2.kitB t n = some b) : wO (nIsTy [d, .ty n] M) P = P (.bl b) M := by
  unfold nIsTy
  simp only [h, hb]
  rfl
theorem k_ii : L2.kitB "int" "int" = some true := by decide
theorem k_ib : L2.kitB "int" "bool" = some false := by decide
theorem k_tt : L2.kitB "tuple" "tuple" = some true := by decide
theorem w_isi {i : Int} {M : Mem} {P : D → Mem → Prop} : wO (nIsTy [.int i, .ty "int"] M) P = P (.bl true) M := w_ty (t := "int") rfl k_ii
theorem w_isb {i : Int} {M : Mem} {P : D → Mem → Prop} : wO (nIsTy [.int i, .ty "bool"] M) P = P (.bl false) M := w_ty (t := "int") rfl k_ib
theorem w_ist {xs : List D} {M : Mem} {P : D → Mem → Prop} : wO (nIsTy [.tup xs, .ty "tuple"] M) P = P (.bl true) M := w_ty (t := "tuple") rfl k_tt
theorem w_isB' {b : Bag} {M : Mem} {P : D → Mem → Prop} : wO (nIsTy [bagD b, .ty "tuple"] M) P = P (.bl true) M := w_ist
theorem e_is_integer {i : Int} {M : Mem} : callF F_bags_is_integer [.int i] M = .ok (.bl true) M := by
  refine callP_eq rfl rfl ?_
  simp only [F_bags_is_integer, c_bags_is_integer, w_defn1, w_defn2, w_defn3, w_defn4, w_defn5, w_seq, w_snil, w_asg, w_expr, w_ret, w_retN, w_brk, w_cont, w_sif, ifB_bl, notB_bl, w_gN, w_par, w_par3, w_gsNil, w_gsCons, w_gT2, w_gT3, w_gTi2, w_var0, w_varS, w_c, w_nil, w_cons, w_tup, w_lst, w_new, w_newD, w_op, w_gI, w_add, w_chain, w_not, w_and, w_or, w_if, w_call, w_fn, w_fnN, w_make, w_neg, w_negI, w_t20, w_t21, w_t30, w_t31, w_t32, w_min2, w_max2, w_lenT, w_for, w_iA, wO_ok, w_cmt, List.map, List.replicate, List.set, List.append, wipeE, decide_eq_true_eq, Bool.not_true, Bool.not_false, Bool.false_eq_true, if_true, if_false, Bool.not_eq_true, decide_eq_false_iff_not, Bool.true_eq_false, reduceIte, decide_true, decide_false, Nat.reduceSub, Nat.add_zero, w_isi, w_isb]
theorem e_is_count {i : Int} {M : Mem} : callF F_bags_is_count [.int i] M = .ok (.bl (decide (0 ≤ i))) M := by
  refine callP_eq rfl rfl ?_
  simp only [F_bags_is_count, c_bags_is_count, w_defn1, w_defn2, w_defn3, w_defn4, w_defn5, w_seq, w_snil, w_asg, w_expr, w_ret, w_retN, w_brk, w_cont, w_sif, ifB_bl, notB_bl, w_gN, w_par, w_par3, w_gsNil, w_gsCons, w_gT2, w_gT3, w_gTi2, w_var0, w_varS, w_c, w_nil, w_cons, w_tup, w_lst, w_new, w_newD, w_op, w_gI, w_add, w_chain, w_not, w_and, w_or, w_if, w_call, w_fn, w_fnN, w_make, w_neg, w_negI, w_t20, w_t21, w_t30, w_t31, w_t32, w_min2, w_max2, w_lenT, w_for, w_iA, wO_ok, w_cmt, List.map, List.replicate, List.set, List.append, wipeE, decide_eq_true_eq, Bool.not_true, Bool.not_false, Bool.false_eq_true, if_true, if_false, Bool.not_eq_true, decide_eq_false_iff_not, Bool.true_eq_false, reduceIte, decide_true, decide_false, Nat.reduceSub, Nat.add_zero, e_is_integer]
theorem e_check_count {i : Int} {M : Mem} (h : 0 ≤ i) : callF F_bags_check_count [.int i] M = .ok .non M := by
  refine callP_eq rfl rfl ?_
  simp only [F_bags_check_count, c_bags_check_count, w_defn1, w_defn2, w_defn3, w_defn4, w_defn5, w_seq, w_snil, w_asg, w_expr, w_ret, w_retN, w_brk, w_cont, w_sif, ifB_bl, notB_bl, w_gN, w_par, w_par3, w_gsNil, w_gsCons, w_gT2, w_gT3, w_gTi2, w_var0, w_varS, w_c, w_nil, w_cons, w_tup, w_lst, w_new, w_newD, w_op, w_gI, w_add, w_chain, w_not, w_and, w_or, w_if, w_call, w_fn, w_fnN, w_make, w_neg, w_negI, w_t20, w_t21, w_t30, w_t31, w_t32, w_min2, w_max2, w_lenT, w_for, w_iA, wO_ok, w_cmt, List.map, List.replicate, List.set, List.append, wipeE, decide_eq_true_eq, Bool.not_true, Bool.not_false, Bool.false_eq_true, if_true, if_false, Bool.not_eq_true, decide_eq_false_iff_not, Bool.true_eq_false, reduceIte, decide_true, decide_false, Nat.reduceSub, Nat.add_zero, e_is_count, h, not_true]
theorem last_take {α : Type} {b : List α} {i : Nat} {p : α} (h : b[i]? = some p) : b.take (i + 1) = b.take i ++ [p] := by
  rw [List.take_add_one, h]
  rfl
theorem e_is_bag {b : Bag} {M : Mem} (hb : Val b) (z : b.length ≤ 4000000) : callF F_bags_is_bag [bagD b] M = .ok (.bl true) M := by
  refine callP_eq (pure_cons (pb _) rfl) rfl ?_
  simp only [F_bags_is_bag, c_bags_is_bag, c_bags_is_bag_1, c_bags_is_bag_2, c_bags_is_bag_3, c_bags_is_bag_4, c_bags_is_bag_5, c_bags_is_bag_6, c_bags_is_bag_7, c_bags_is_bag_8, w_defn1, w_defn2, w_defn3, w_defn4, w_defn5, w_seq, w_snil, w_asg, w_expr, w_ret, w_retN, w_brk, w_cont, w_sif, ifB_bl, notB_bl, w_gN, w_par, w_par3, w_gsNil, w_gsCons, w_gT2, w_gT3, w_gTi2, w_var0, w_varS, w_c, w_nil, w_cons, w_tup, w_lst, w_new, w_newD, w_op, w_gI, w_add, w_chain, w_not, w_and, w_or, w_if, w_call, w_fn, w_fnN, w_make, w_neg, w_negI, w_t20, w_t21, w_t30, w_t31, w_t32, w_min2, w_max2, w_lenT, w_for, w_iA, wO_ok, w_cmt, List.map, List.replicate, List.set, List.append, wipeE, decide_eq_true_eq, Bool.not_true, Bool.not_false, Bool.false_eq_true, if_true, if_false, Bool.not_eq_true, decide_eq_false_iff_not, Bool.true_eq_false, reduceIte, decide_true, decide_false, Nat.reduceSub, Nat.add_zero, w_isB', w_itB]
  refine w_forD (fun i e M => e = [none, some (.ref 0), none, none, none] ∧ M = [.lst (((b.take i).map (·.1)).map D.int)]) ⟨rfl, rfl⟩ (fun _ _ _ _ => rfl) ?_ ?_
  · rintro i d e M hd ⟨rfl, rfl⟩
    obtain ⟨p, hp, rfl⟩ := pr_at hd
    have hi : i < b.length := (List.getElem?_eq_some_iff.mp hp).1
    have hpos := hb.2 p (List.mem_of_getElem? hp)
    have e2 : (([D.int p.1, D.int p.2] : List D).length : Int) = 2 := rfl
    simp only [w_defn1, w_defn2, w_defn3, w_defn4, w_defn5, w_seq, w_snil, w_asg, w_expr, w_ret, w_retN, w_brk, w_cont, w_sif, ifB_bl, notB_bl, w_gN, w_par, w_par3, w_gsNil, w_gsCons, w_gT2, w_gT3, w_gTi2, w_var0, w_varS, w_c, w_nil, w_cons, w_tup, w_lst, w_new, w_newD, w_op, w_gI, w_add, w_chain, w_not, w_and, w_or, w_if, w_call, w_fn, w_fnN, w_make, w_neg, w_negI, w_t20, w_t21, w_t30, w_t31, w_t32, w_min2, w_max2, w_lenT, w_for, w_iA, wO_ok, w_cmt, List.map, List.replicate, List.set, List.append, wipeE, decide_eq_true_eq, Bool.not_true, Bool.not_false, Bool.false_eq_true, if_true, if_false, Bool.not_eq_true, decide_eq_false_iff_not, Bool.true_eq_false, reduceIte, decide_true, decide_false, Nat.reduceSub, Nat.add_zero, w_ist, w_neI, e_is_integer, e2, beq_self_eq_true, show ¬ p.2 < 1 by omega, w_app]
    rw [w_neNil (ns := (b.take i).map (·.1)) rfl]
    have fin : wO (mAppend (eVar 1) (eVar 3) [none, some (.ref 0), some (.tup [.int p.1, .int p.2]), some (.int p.1), some (.int p.2)] [.lst (((b.take i).map (·.1)).map D.int)])
        fun _ M => ([none, some (.ref 0), none, none, none] : DL.Env) = [none, some (.ref 0), none, none, none] ∧ M = [.lst (((b.take (i + 1)).map (·.1)).map D.int)] := by
      simp only [w_defn1, w_defn2, w_defn3, w_defn4, w_defn5, w_seq, w_snil, w_asg, w_expr, w_ret, w_retN, w_brk, w_cont, w_sif, ifB_bl, notB_bl, w_gN, w_par, w_par3, w_gsNil, w_gsCons, w_gT2, w_gT3, w_gTi2, w_var0, w_varS, w_c, w_nil, w_cons, w_tup, w_lst, w_new, w_newD, w_op, w_gI, w_add, w_chain, w_not, w_and, w_or, w_if, w_call, w_fn, w_fnN, w_make, w_neg, w_negI, w_t20, w_t21, w_t30, w_t31, w_t32, w_min2, w_max2, w_lenT, w_for, w_iA, wO_ok, w_cmt, List.map, List.replicate, List.set, List.append, wipeE, decide_eq_true_eq, Bool.not_true, Bool.not_false, Bool.false_eq_true, if_true, if_false, Bool.not_eq_true, decide_eq_false_iff_not, Bool.true_eq_false, reduceIte, decide_true, decide_false, Nat.reduceSub, Nat.add_zero, w_app]
      rw [w_appR (ys := ((b.take i).map (·.1)).map D.int) rfl]
      simp only [w_defn1, w_defn2, w_defn3, w_defn4, w_defn5, w_seq, w_snil, w_asg, w_expr, w_ret, w_retN, w_brk, w_cont, w_sif, ifB_bl, notB_bl, w_gN, w_par, w_par3, w_gsNil, w_gsCons, w_gT2, w_gT3, w_gTi2, w_var0, w_varS, w_c, w_nil, w_cons, w_tup, w_lst, w_new, w_newD, w_op, w_gI, w_add, w_chain, w_not, w_and, w_or, w_if, w_call, w_fn, w_fnN, w_make, w_neg, w_negI, w_t20, w_t21, w_t30, w_t31, w_t32, w_min2, w_max2, w_lenT, w_for, w_iA, wO_ok, w_cmt, List.map, List.replicate, List.set, List.append, wipeE, decide_eq_true_eq, Bool.not_true, Bool.not_false, Bool.false_eq_true, if_true, if_false, Bool.not_eq_true, decide_eq_false_iff_not, Bool.true_eq_false, reduceIte, decide_true, decide_false, Nat.reduceSub, Nat.add_zero]
      refine ⟨by simp; exact lt_line (by omega), trivial, ?_⟩
      rw [last_take hp]
      simp
    simp only [w_defn1, w_defn2, w_defn3, w_defn4, w_defn5, w_seq, w_snil, w_asg, w_expr, w_ret, w_retN, w_brk, w_cont, w_sif, ifB_bl, notB_bl, w_gN, w_par, w_par3, w_gsNil, w_gsCons, w_gT2, w_gT3, w_gTi2, w_var0, w_varS, w_c, w_nil, w_cons, w_tup, w_lst, w_new, w_newD, w_op, w_gI, w_add, w_chain, w_not, w_and, w_or, w_if, w_call, w_fn, w_fnN, w_make, w_neg, w_negI, w_t20, w_t21, w_t30, w_t31, w_t32, w_min2, w_max2, w_lenT, w_for, w_iA, wO_ok, w_cmt, List.map, List.replicate, List.set, List.append, wipeE, decide_eq_true_eq, Bool.not_true, Bool.not_false, Bool.false_eq_true, if_true, if_false, Bool.not_eq_true, decide_eq_false_iff_not, Bool.true_eq_false, reduceIte, decide_true, decide_false, Nat.reduceSub, Nat.add_zero, w_app] at fin
    by_cases q : (b.take i).map (·.1) = []
    · simp only [w_defn1, w_defn2, w_defn3, w_defn4, w_defn5, w_seq, w_snil, w_asg, w_expr, w_ret, w_retN, w_brk, w_cont, w_sif, ifB_bl, notB_bl, w_gN, w_par, w_par3, w_gsNil, w_gsCons, w_gT2, w_gT3, w_gTi2, w_var0, w_varS, w_c, w_nil, w_cons, w_tup, w_lst, w_new, w_newD, w_op, w_gI, w_add, w_chain, w_not, w_and, w_or, w_if, w_call, w_fn, w_fnN, w_make, w_neg, w_negI, w_t20, w_t21, w_t30, w_t31, w_t32, w_min2, w_max2, w_lenT, w_for, w_iA, wO_ok, w_cmt, List.map, List.replicate, List.set, List.append, wipeE, decide_eq_true_eq, Bool.not_true, Bool.not_false, Bool.false_eq_true, if_true, if_false, Bool.not_eq_true, decide_eq_false_iff_not, Bool.true_eq_false, reduceIte, decide_true, decide_false, Nat.reduceSub, Nat.add_zero, q, decide_true]
      rw [q] at fin
      exact fin
    · have hi0 : 0 < i := by
        rcases Nat.eq_zero_or_pos i with h | h
        · subst h; simp at q
        · exact h
      obtain ⟨p0, hp0⟩ : ∃ p0, b[i - 1]? = some p0 := ⟨b[i - 1], List.getElem?_eq_getElem (by omega)⟩
      have e3 : b.take i = b.take (i - 1) ++ [p0] := by
        have := last_take hp0
        rwa [Nat.sub_add_cancel hi0] at this
      have hlt : p0.1 < p.1 := by
        have := List.pairwise_iff_getElem.mp hb.1 (i - 1) i (by omega) hi (by omega)
        rw [(List.getElem?_eq_some_iff.mp hp0).2, (List.getElem?_eq_some_iff.mp hp).2] at this
        exact this
      simp only [w_defn1, w_defn2, w_defn3, w_defn4, w_defn5, w_seq, w_snil, w_asg, w_expr, w_ret, w_retN, w_brk, w_cont, w_sif, ifB_bl, notB_bl, w_gN, w_par, w_par3, w_gsNil, w_gsCons, w_gT2, w_gT3, w_gTi2, w_var0, w_varS, w_c, w_nil, w_cons, w_tup, w_lst, w_new, w_newD, w_op, w_gI, w_add, w_chain, w_not, w_and, w_or, w_if, w_call, w_fn, w_fnN, w_make, w_neg, w_negI, w_t20, w_t21, w_t30, w_t31, w_t32, w_min2, w_max2, w_lenT, w_for, w_iA, wO_ok, w_cmt, List.map, List.replicate, List.set, List.append, wipeE, decide_eq_true_eq, Bool.not_true, Bool.not_false, Bool.false_eq_true, if_true, if_false, Bool.not_eq_true, decide_eq_false_iff_not, Bool.true_eq_false, reduceIte, decide_true, decide_false, Nat.reduceSub, Nat.add_zero, q, decide_false]
      rw [w_ixR (l := 0) (xs := List.map D.int (List.map (fun x : Int × Int => x.1) (b.take (i - 1))) ++ [.int p0.1]) (d := .int p0.1) (by rw [e3]; simp) (atI_last _ _)]
      simp only [w_defn1, w_defn2, w_defn3, w_defn4, w_defn5, w_seq, w_snil, w_asg, w_expr, w_ret, w_retN, w_brk, w_cont, w_sif, ifB_bl, notB_bl, w_gN, w_par, w_par3, w_gsNil, w_gsCons, w_gT2, w_gT3, w_gTi2, w_var0, w_varS, w_c, w_nil, w_cons, w_tup, w_lst, w_new, w_newD, w_op, w_gI, w_add, w_chain, w_not, w_and, w_or, w_if, w_call, w_fn, w_fnN, w_make, w_neg, w_negI, w_t20, w_t21, w_t30, w_t31, w_t32, w_min2, w_max2, w_lenT, w_for, w_iA, wO_ok, w_cmt, List.map, List.replicate, List.set, List.append, wipeE, decide_eq_true_eq, Bool.not_true, Bool.not_false, Bool.false_eq_true, if_true, if_false, Bool.not_eq_true, decide_eq_false_iff_not, Bool.true_eq_false, reduceIte, decide_true, decide_false, Nat.reduceSub, Nat.add_zero, show ¬ p.1 ≤ p0.1 by omega]
      exact fin
  · rintro e M ⟨rfl, rfl⟩
    simp only [w_defn1, w_defn2, w_defn3, w_defn4, w_defn5, w_seq, w_snil, w_asg, w_expr, w_ret, w_retN, w_brk, w_cont, w_sif, ifB_bl, notB_bl, w_gN, w_par, w_par3, w_gsNil, w_gsCons, w_gT2, w_gT3, w_gTi2, w_var0, w_varS, w_c, w_nil, w_cons, w_tup, w_lst, w_new, w_newD, w_op, w_gI, w_add, w_chain, w_not, w_and, w_or, w_if, w_call, w_fn, w_fnN, w_make, w_neg, w_negI, w_t20, w_t21, w_t30, w_t31, w_t32, w_min2, w_max2, w_lenT, w_for, w_iA, wO_ok, w_cmt, List.map, List.replicate, List.set, List.append, wipeE, decide_eq_true_eq, Bool.not_true, Bool.not_false, Bool.false_eq_true, if_true, if_false, Bool.not_eq_true, decide_eq_false_iff_not, Bool.true_eq_false, reduceIte, decide_true, decide_false, Nat.reduceSub, Nat.add_zero]
theorem e_check_bag {b : Bag} {M : Mem} (hb : Val b) (z : b.length ≤ 4000000) : callF F_bags_check_bag [bagD b] M = .ok .non M := by
  refine callP_eq (pure_cons (pb _) rfl) rfl ?_
  simp only [F_bags_check_bag, c_bags_check_bag, w_defn1, w_defn2, w_defn3, w_defn4, w_defn5, w_seq, w_snil, w_asg, w_expr, w_ret, w_retN, w_brk, w_cont, w_sif, ifB_bl, notB_bl, w_gN, w_par, w_par3, w_gsNil, w_gsCons, w_gT2, w_gT3, w_gTi2, w_var0, w_varS, w_c, w_nil, w_cons, w_tup, w_lst, w_new, w_newD, w_op, w_gI, w_add, w_chain, w_not, w_and, w_or, w_if, w_call, w_fn, w_fnN, w_make, w_neg, w_negI, w_t20, w_t21, w_t30, w_t31, w_t32, w_min2, w_max2, w_lenT, w_for, w_iA, wO_ok, w_cmt, List.map, List.replicate, List.set, List.append, wipeE, decide_eq_true_eq, Bool.not_true, Bool.not_false, Bool.false_eq_true, if_true, if_false, Bool.not_eq_true, decide_eq_false_iff_not, Bool.true_eq_false, reduceIte, decide_true, decide_false, Nat.reduceSub, Nat.add_zero, e_is_bag hb z]
end HL

namespace HL
open PySem DL
/-! ### bags: what add, subtract, scale, take, drop do to the levels -/
theorem len_drop : ∀ (l : Int) (b : Bag), (dropB l b).length ≤ b.length
  | _, [] => Nat.le_refl _
  | l, p :: b => by
    unfold dropB
    split
    · simp; exact len_drop _ b
    · have := len_drop (l - min l p.2) b; simp; omega
theorem val_nil : Val [] := ⟨.nil, by simp⟩
theorem val_one (n : Int) {c : Int} (h : 1 ≤ c) : Val [(n, c)] := ⟨List.pairwise_singleton _ _, by simpa using h⟩
theorem val_sub {a : Bag} (h : Val a) (b : Bag) : Val (subB a b) := val_canon (dst_fold _ b h.dst)
theorem val_add {a : Bag} (h : Val a) (b : Bag) : Val (addB a b) := val_canon (dst_fold _ b h.dst)
theorem cum_fold (s : Int) (f : Int → Int → Int) (hf : ∀ a b, f a b = a + s * b) : ∀ (b : Bag) (a : Bag) (x : Int), cum (foldP f a b) x = cum a x + s * cum b x
  | [], a, x => by
    have : cum ([] : Bag) x = 0 := rfl
    rw [this]
    show cum a x = _
    omega
  | p :: b, a, x => by
    unfold foldP
    rw [cum_fold s f hf b _ x, cum_put, hf]
    show _ = cum a x + s * ((if p.1 ≤ x then p.2 else 0) + cum b x)
    split <;> simp only [Int.mul_add, Int.mul_zero] <;> omega
theorem getI_fold_sub (a b : Bag) (ha : Dst a) (k : Int) : getI (foldP (· - ·) a b) k = cnt a k - cnt b k := by
  rw [getI_cnt k (dst_fold _ b ha), cnt_cum, cnt_cum, cnt_cum, cum_fold (-1) (· - ·) (fun a b => by omega), cum_fold (-1) (· - ·) (fun a b => by omega)]
  omega
theorem mem_get : ∀ {b : Bag} {p : Int × Int}, Dst b → p ∈ b → getI b p.1 = p.2
  | [], p, _, h => by cases h
  | q :: b, p, hd, h => by
    have h' := List.nodup_cons.mp (show (q.1 :: b.map (·.1)).Nodup from hd)
    unfold getI
    rcases List.mem_cons.1 h with rfl | h
    · rw [if_pos rfl]
    · rw [if_neg fun z => h'.1 (by rw [z]; exact List.mem_map_of_mem h)]
      exact mem_get h'.2 h
theorem get_mem : ∀ (b : Bag) (k : Int), getI b k = 0 ∨ ∃ p ∈ b, p.1 = k ∧ getI b k = p.2
  | [], k => .inl rfl
  | q :: b, k => by
    unfold getI
    by_cases e : q.1 = k
    · exact .inr ⟨q, List.mem_cons_self, e, by rw [if_pos e]⟩
    · rw [if_neg e]
      rcases get_mem b k with h | ⟨p, hp, h1, h2⟩
      · exact .inl h
      · exact .inr ⟨p, List.mem_cons_of_mem _ hp, h1, h2⟩
theorem cnt_nn : ∀ {b : Bag} (x : Int), (∀ p ∈ b, 0 ≤ p.2) → 0 ≤ cnt b x
  | [], x, _ => Int.le_refl 0
  | p :: b, x, h => by
    unfold cnt
    have := cnt_nn (b := b) x fun q hq => h q (List.mem_cons_of_mem _ hq)
    have := h p List.mem_cons_self
    split <;> omega
theorem cum_addN {a b : Bag} (ha : Val a) (hb : ∀ p ∈ b, 0 ≤ p.2) (x : Int) : cum (addB a b) x = cum a x + cum b x := by
  unfold addB
  rw [cum_canon (fun p hp => by
    have hd := dst_fold (· + ·) b ha.dst
    have e1 := mem_get hd hp
    rw [getI_cnt _ hd, cnt_cum, cum_fold 1 (· + ·) (fun a b => by omega), cum_fold 1 (· + ·) (fun a b => by omega)] at e1
    have h1 := cnt_nn p.1 ha.nn
    have h2 := cnt_nn p.1 hb
    rw [cnt_cum] at h1 h2
    omega), cum_fold 1 (· + ·) (fun a b => by omega)]
  omega
theorem cum_add {a b : Bag} (ha : Val a) (hb : Val b) (x : Int) : cum (addB a b) x = cum a x + cum b x := cum_addN ha hb.nn x
theorem hasB_iff {a b : Bag} (ha : Val a) : hasB a b = true ↔ ∀ k, cnt b k ≤ cnt a k := by
  unfold hasB
  rw [Bool.not_eq_true', List.any_eq_false]
  have hd := dst_fold (· - ·) b ha.dst
  constructor
  · intro h k
    rcases get_mem (foldP (· - ·) a b) k with g | ⟨p, hp, rfl, g⟩
    · rw [getI_fold_sub a b ha.dst] at g; omega
    · have := h p hp
      rw [getI_fold_sub a b ha.dst] at g
      simp at this
      omega
  · intro h p hp
    have e1 := mem_get hd hp
    rw [getI_fold_sub a b ha.dst] at e1
    have := h p.1
    simp
    omega
theorem cum_sub {a b : Bag} (ha : Val a) (h : hasB a b = true) (x : Int) : cum (subB a b) x = cum a x - cum b x := by
  unfold subB
  rw [cum_canon (fun p hp => by
    unfold hasB at h
    rw [Bool.not_eq_true', List.any_eq_false] at h
    have := h p hp
    simp at this
    exact this), cum_fold (-1) (· - ·) (fun a b => by omega)]
  omega
theorem cum_mono {b : Bag} (h : Val b) {x y : Int} (l : x ≤ y) : cum b x ≤ cum b y := by
  have nn := h.nn
  clear h
  induction b with
  | nil => exact Int.le_refl _
  | cons p b ih =>
    have := ih fun q hq => nn q (List.mem_cons_of_mem _ hq)
    have := nn p List.mem_cons_self
    unfold cum
    split <;> split <;> omega
theorem tot_nn {b : Bag} (h : Val b) : 0 ≤ tot b := by
  obtain ⟨N, hN⟩ := cum_top b
  have := cum_nonneg N h.nn
  rw [hN N (Int.le_refl _)] at this
  exact this
theorem tot_nil : tot [] = 0 := rfl
theorem tot_add {a b : Bag} (ha : Val a) (hb : Val b) : tot (addB a b) = tot a + tot b := tot_cum2 (f := fun a b => a + b) (cum_add ha hb)
theorem tot_sub {a b : Bag} (ha : Val a) (h : hasB a b = true) : tot (subB a b) = tot a - tot b := tot_cum2 (f := fun a b => a - b) (cum_sub ha h)
theorem tot_drop {b : Bag} {l : Int} (h : Val b) (hl : 0 ≤ l) : tot (dropB l b) = max (tot b - l) 0 := tot_cum (f := fun a => max (a - l) 0) (c := 0) fun x => cum_drop x h hl
theorem cnt_add {a b : Bag} (ha : Val a) (hb : Val b) (k : Int) : cnt (addB a b) k = cnt a k + cnt b k := by
  rw [cnt_cum, cum_add ha hb, cum_add ha hb, cnt_cum, cnt_cum]
  omega
theorem cnt_sub {a b : Bag} (ha : Val a) (h : hasB a b = true) (k : Int) : cnt (subB a b) k = cnt a k - cnt b k := by
  rw [cnt_cum, cum_sub ha h, cum_sub ha h, cnt_cum, cnt_cum]
  omega
theorem cnt_drop {b : Bag} {l : Int} (h : Val b) (hl : 0 ≤ l) (k : Int) : cnt (dropB l b) k ≤ cnt b k := by
  rw [cnt_cum, cum_drop _ h hl, cum_drop _ h hl, cnt_cum]
  have := cum_mono h (show k - 1 ≤ k by omega)
  omega
def scaleB (b : Bag) (n : Int) : Bag := if 0 < n then b.map fun p => (p.1, p.2 * n) else []
theorem val_scale {b : Bag} (h : Val b) (n : Int) : Val (scaleB b n) := by
  unfold scaleB
  split
  · rename_i hn
    refine ⟨List.pairwise_map.mpr (h.1.imp fun z => z), fun p hp => ?_⟩
    (obtain ⟨q, hq, rfl⟩ := List.mem_map.mp hp)
    have h1 := h.2 q hq
    have : 1 * 1 ≤ q.2 * n := Int.mul_le_mul h1 (by omega) (by omega) (by omega)
    show 1 ≤ q.2 * n
    omega
  · exact val_nil
theorem cum_scale {b : Bag} {n : Int} (hn : 0 ≤ n) (x : Int) : cum (scaleB b n) x = n * cum b x := by
  unfold scaleB
  split
  · induction b with
    | nil => simp [cum]
    | cons p b ih =>
      rw [List.map_cons]
      unfold cum
      rw [ih, Int.mul_add]
      simp only
      split
      · rw [Int.mul_comm]
      · simp
  · have : n = 0 := by omega
    subst this
    simp [cum]
theorem tot_scale {b : Bag} {n : Int} (hn : 0 ≤ n) : tot (scaleB b n) = n * tot b := tot_cum (f := fun a => n * a) (c := 0) fun x => cum_scale hn x
theorem cnt_scale {b : Bag} {n : Int} (hn : 0 ≤ n) (k : Int) : cnt (scaleB b n) k = n * cnt b k := by
  rw [cnt_cum, cum_scale hn, cum_scale hn, cnt_cum, Int.mul_sub]
/-! ### effects -/
structure Ef where
  I : Bag
  r : Int
  S : Bag
structure Ef.Ok (e : Ef) : Prop where
  vi : Val e.I
  vs : Val e.S
  has : hasB e.I e.S = true
  r0 : 0 ≤ e.r
  rt : tot e.I - tot e.S ≤ e.r
/-- the change of a level, the least level behind -/
def Ef.a (e : Ef) (x : Int) : Int := cum e.I x - e.r
def Ef.s (e : Ef) (x : Int) : Int := cum e.S x
def Ef.C (e : Ef) : Bag := subB e.I e.S
def Ef.need (e : Ef) : Int := e.r - tot e.I + tot e.S
def idE : Ef := ⟨[], 0, []⟩
def joinE (e f : Ef) : Ef := ⟨addB e.I f.I, e.r + f.r, addB f.S (dropB f.r (addB e.S (subB f.I f.S)))⟩
def powE (e : Ef) (n : Int) : Ef := if n = 0 then idE else ⟨scaleB e.I n, e.r * n, addB e.S (scaleB (dropB e.r e.I) (n - 1))⟩
def Ef.ap (e : Ef) (h : Bag) : Bag := addB e.S (dropB e.r (addB h e.C))
def Ef.rm (e : Ef) (h : Bag) : Bag := takeB e.r (addB h e.C)
theorem idE_ok : idE.Ok := ⟨val_nil, val_nil, by decide, by decide, by decide⟩
section
variable {e f : Ef}
theorem Ef.Ok.vc (h : e.Ok) : Val e.C := val_sub h.vi _
theorem Ef.Ok.cumC (h : e.Ok) (x : Int) : cum e.C x = cum e.I x - cum e.S x := cum_sub h.vi h.has x
theorem Ef.Ok.totC (h : e.Ok) : tot e.C = tot e.I - tot e.S := tot_sub h.vi h.has
theorem Ef.Ok.need0 (h : e.Ok) : 0 ≤ e.need := by have := h.rt; unfold Ef.need; omega
theorem Ef.Ok.le (h : e.Ok) (x : Int) : cum e.S x ≤ cum e.I x := by
  have := cum_nonneg x h.vc.nn
  rw [h.cumC] at this
  omega
theorem Ef.Ok.as (h : e.Ok) (x : Int) : e.a x ≤ e.s x := by
  have h1 := cum_le_tot x h.vc.nn
  rw [h.cumC, h.totC] at h1
  have := h.rt
  unfold Ef.a Ef.s
  omega
theorem Ef.Ok.vap (h : e.Ok) (b : Bag) : Val (e.ap b) := val_add h.vs _
theorem Ef.Ok.cum_ap (h : e.Ok) {b : Bag} (hb : Val b) (x : Int) : cum (e.ap b) x = max (cum b x + e.a x) (e.s x) := by
  have v := val_add hb e.C
  unfold Ef.ap Ef.a Ef.s
  rw [cum_add h.vs (val_drop v), cum_drop x v h.r0, cum_add hb h.vc, h.cumC]
  omega
theorem Ef.Ok.vrm (h : e.Ok) {b : Bag} (hb : Val b) : Val (e.rm b) := val_take (val_add hb _)
theorem Ef.Ok.cum_rm (h : e.Ok) {b : Bag} (hb : Val b) (x : Int) : cum (e.rm b) x = min (cum b x + cum e.I x - cum e.S x) e.r := by
  unfold Ef.rm
  rw [cum_take x (val_add hb _) h.r0, cum_add hb h.vc, h.cumC]
  omega
theorem joinE_s (he : e.Ok) (hf : f.Ok) (x : Int) : (joinE e f).s x = max (e.s x + f.a x) (f.s x) := by
  have v := val_add he.vs f.C
  have e1 : (joinE e f).S = addB f.S (dropB f.r (addB e.S f.C)) := rfl
  unfold Ef.s
  rw [e1, cum_add hf.vs (val_drop v), cum_drop x v hf.r0, cum_add he.vs hf.vc, hf.cumC]
  unfold Ef.a
  omega
theorem joinE_a (he : e.Ok) (hf : f.Ok) (x : Int) : (joinE e f).a x = e.a x + f.a x := by
  show cum (addB e.I f.I) x - (e.r + f.r) = _
  rw [cum_add he.vi hf.vi]
  unfold Ef.a
  omega
theorem joinE_ok (he : e.Ok) (hf : f.Ok) : (joinE e f).Ok := by
  have v := val_add he.vs f.C
  have vd := val_drop (l := f.r) v
  refine ⟨val_add he.vi _, val_add hf.vs _, ?_, ?_, ?_⟩
  · refine (hasB_iff (a := addB e.I f.I) (val_add he.vi _)).mpr fun k => ?_
    show cnt (addB f.S (dropB f.r (addB e.S f.C))) k ≤ cnt (addB e.I f.I) k
    rw [cnt_add hf.vs vd, cnt_add he.vi hf.vi]
    have h1 := cnt_drop v hf.r0 k
    rw [cnt_add he.vs hf.vc] at h1
    have h2 : cnt f.C k = cnt f.I k - cnt f.S k := cnt_sub hf.vi hf.has k
    have h3 := (hasB_iff he.vi).mp he.has k
    omega
  · have := he.r0; have := hf.r0; show 0 ≤ e.r + f.r; omega
  · show tot (addB e.I f.I) - tot (addB f.S (dropB f.r (addB e.S f.C))) ≤ e.r + f.r
    rw [tot_add he.vi hf.vi, tot_add hf.vs vd, tot_drop v hf.r0, tot_add he.vs hf.vc, hf.totC]
    have := he.rt
    omega
/-- effects are known by their changes and least levels -/
theorem ef_ext (he : e.Ok) (hf : f.Ok) (hr : e.r = f.r) (ha : ∀ x, e.a x = f.a x) (hs : ∀ x, e.s x = f.s x) : e = f := by
  have h1 : e.I = f.I := bag_ext he.vi hf.vi fun x => by have := ha x; unfold Ef.a at this; omega
  have h2 : e.S = f.S := bag_ext he.vs hf.vs hs
  cases e; cases f
  simp only at h1 h2 hr
  rw [h1, h2, hr]
theorem powE_zero (e : Ef) : powE e 0 = idE := by unfold powE; rw [if_pos rfl]
theorem powE_a (he : e.Ok) {n : Int} (hn : 0 ≤ n) (x : Int) : (powE e n).a x = n * e.a x := by
  unfold powE
  split
  · rename_i h; subst h
    show cum [] x - 0 = _
    rw [Int.zero_mul]; rfl
  · show cum (scaleB e.I n) x - e.r * n = _
    rw [cum_scale hn]
    unfold Ef.a
    rw [Int.mul_sub, Int.mul_comm e.r n]
theorem powE_s (he : e.Ok) {n : Int} (hn : 0 < n) (x : Int) : (powE e n).s x = e.s x + (n - 1) * max (e.a x) 0 := by
  unfold powE
  rw [if_neg (by omega)]
  show cum (addB e.S (scaleB (dropB e.r e.I) (n - 1))) x = _
  rw [cum_add he.vs (val_scale (val_drop he.vi) _), cum_scale (by omega), cum_drop x he.vi he.r0]
  rfl
theorem powE_r (e : Ef) (n : Int) : (powE e n).r = e.r * n := by
  unfold powE
  split
  · rename_i h; subst h; rw [Int.mul_zero]; rfl
  · rfl
theorem powE_one (he : e.Ok) : powE e 1 = e := by
  have e1 : scaleB e.I 1 = e.I := bag_ext (val_scale he.vi _) he.vi fun x => by rw [cum_scale (by decide)]; omega
  have e2 : addB e.S (scaleB (dropB e.r e.I) (1 - 1)) = e.S := bag_ext (val_add he.vs _) he.vs fun x => by
    rw [cum_add he.vs (val_scale (val_drop he.vi) _), cum_scale (by decide)]; omega
  unfold powE
  rw [if_neg (by decide), e1, e2, Int.mul_one]
theorem powE_ok (he : e.Ok) {n : Int} (hn : 0 ≤ n) : (powE e n).Ok := by
  unfold powE
  split
  · exact idE_ok
  · have vd := val_drop (l := e.r) he.vi
    have n1 : 0 ≤ n - 1 := by omega
    refine ⟨val_scale he.vi _, val_add he.vs _, ?_, Int.mul_nonneg he.r0 hn, ?_⟩
    · refine (hasB_iff (a := scaleB e.I n) (val_scale he.vi _)).mpr fun k => ?_
      show cnt (addB e.S (scaleB (dropB e.r e.I) (n - 1))) k ≤ _
      rw [cnt_add he.vs (val_scale vd _), cnt_scale n1, cnt_scale hn]
      have h1 := cnt_drop he.vi he.r0 k
      have h2 := (hasB_iff he.vi).mp he.has k
      have h3 := Int.mul_le_mul_of_nonneg_left h1 n1
      have h4 : n * cnt e.I k = cnt e.I k + (n - 1) * cnt e.I k := by rw [Int.sub_mul]; omega
      omega
    · show tot (scaleB e.I n) - tot (addB e.S (scaleB (dropB e.r e.I) (n - 1))) ≤ e.r * n
      rw [tot_scale hn, tot_add he.vs (val_scale vd _), tot_scale n1, tot_drop he.vi he.r0]
      have h1 : tot e.I - max (tot e.I - e.r) 0 ≤ e.r := by omega
      have h2 := Int.mul_le_mul_of_nonneg_left h1 n1
      have h3 := he.rt
      have h4 : n * tot e.I = tot e.I + (n - 1) * tot e.I := by rw [Int.sub_mul]; omega
      have h5 : e.r * n = e.r + (n - 1) * e.r := by rw [Int.sub_mul, Int.mul_comm]; omega
      rw [Int.mul_sub] at h2
      omega
theorem join_id (he : e.Ok) : joinE e idE = e := by
  refine ef_ext (joinE_ok he idE_ok) he (by show e.r + 0 = e.r; omega) (fun x => ?_) fun x => ?_
  · rw [joinE_a he idE_ok]; show e.a x + (0 - 0) = e.a x; omega
  · rw [joinE_s he idE_ok]
    have h1 : idE.a x = 0 := rfl
    have h2 : idE.s x = 0 := rfl
    have h3 : 0 ≤ e.s x := cum_nonneg x he.vs.nn
    omega
theorem id_join (he : e.Ok) : joinE idE e = e := by
  refine ef_ext (joinE_ok idE_ok he) he (by show 0 + e.r = e.r; omega) (fun x => ?_) fun x => ?_
  · rw [joinE_a idE_ok he]; show (0 - 0) + e.a x = e.a x; omega
  · rw [joinE_s idE_ok he]
    have h2 : idE.s x = 0 := rfl
    have h3 := he.as x
    omega
theorem join_assoc {g : Ef} (he : e.Ok) (hf : f.Ok) (hg : g.Ok) : joinE (joinE e f) g = joinE e (joinE f g) := by
  have h1 := joinE_ok he hf
  have h2 := joinE_ok hf hg
  refine ef_ext (joinE_ok h1 hg) (joinE_ok he h2) (by show e.r + f.r + g.r = e.r + (f.r + g.r); omega) (fun x => ?_) fun x => ?_
  · rw [joinE_a h1 hg, joinE_a he hf, joinE_a he h2, joinE_a hf hg]; omega
  · rw [joinE_s h1 hg, joinE_s he hf, joinE_s he h2, joinE_s hf hg, joinE_a hf hg]; omega
end
end HL

namespace HL
open PySem DL
/-! ### the numbers of a bag lie in a known span -/
class Ctr where
  c : Int
  d : Int
/-- near one of two numbers -/
def Near [Ctr] (n : Int) : Prop := (Ctr.c - 400000 ≤ n ∧ n ≤ Ctr.c + 400000) ∨ (Ctr.d - 400000 ≤ n ∧ n ≤ Ctr.d + 400000)
class Zero0 [k : Ctr] : Prop where
  z : k.c = 0
theorem near_small [Ctr] [Zero0] {n : Int} (h1 : -400000 ≤ n) (h2 : n ≤ 400000) : Near n := .inl (by rw [Zero0.z]; omega)
variable [Ctr]
def KeyB (b : Bag) : Prop := ∀ p ∈ b, Near p.1
theorem key_nil : KeyB [] := fun _ h => by cases h
theorem key_one {n c : Int} (h1 : Near n) : KeyB [(n, c)] := fun p h => by
  obtain rfl := List.mem_singleton.mp h
  exact h1
theorem len_span : ∀ {b : Bag} {lo hi : Int}, b.Pairwise (fun p q => p.1 < q.1) → (∀ p ∈ b, lo ≤ p.1 ∧ p.1 ≤ hi) → (b.length : Int) ≤ max (hi - lo + 1) 0
  | [], lo, hi, _, _ => by simp; omega
  | p :: b, lo, hi, hp, h => by
    have hq := List.pairwise_cons.mp hp
    have ih := len_span (b := b) (lo := lo + 1) (hi := hi) hq.2 fun q hm => by
      have := hq.1 q hm
      have := h p List.mem_cons_self
      have := h q (List.mem_cons_of_mem _ hm)
      omega
    have := h p List.mem_cons_self
    simp only [List.length_cons]
    omega
theorem key_len {b : Bag} (h : Val b) (k : KeyB b) : b.length ≤ 1800001 := by
  have cut : ∀ (f : Int × Int → Bool) (b : Bag), (b.filter f).length + (b.filter fun p => !f p).length = b.length := fun f b => by
    induction b with
    | nil => rfl
    | cons p b ih => cases q : f p <;> simp [q] <;> omega
  have h1 := len_span (b := b.filter fun p => decide (Ctr.c - 400000 ≤ p.1 ∧ p.1 ≤ Ctr.c + 400000)) (lo := Ctr.c - 400000) (hi := Ctr.c + 400000) (h.1.filter _) fun p hp => of_decide_eq_true (List.mem_filter.mp hp).2
  have h2 := len_span (b := b.filter fun p => !decide (Ctr.c - 400000 ≤ p.1 ∧ p.1 ≤ Ctr.c + 400000)) (lo := Ctr.d - 400000) (hi := Ctr.d + 400000) (h.1.filter _) fun p hp => by
    obtain ⟨m, q⟩ := List.mem_filter.mp hp
    rcases k p m with z | z
    · simp [z] at q
    · exact z
  have h3 := cut (fun p => decide (Ctr.c - 400000 ≤ p.1 ∧ p.1 ≤ Ctr.c + 400000)) b
  omega
theorem key_put {b : Bag} {k v : Int} (h : KeyB b) (hk : Near k) : KeyB (putI b k v) := by
  induction b with
  | nil =>
    intro p hp
    (obtain rfl := List.mem_singleton.mp hp)
    exact hk
  | cons q b ih =>
    intro p hp
    unfold putI at hp
    split at hp
    · rcases List.mem_cons.1 hp with rfl | hp
      · exact hk
      · exact h p (List.mem_cons_of_mem _ hp)
    · rcases List.mem_cons.1 hp with rfl | hp
      · exact h _ List.mem_cons_self
      · exact ih (fun r hr => h r (List.mem_cons_of_mem _ hr)) p hp
theorem key_fold {f : Int → Int → Int} : ∀ {b a : Bag}, KeyB a → KeyB b → KeyB (foldP f a b)
  | [], a, h, _ => h
  | p :: b, a, h, h2 => by
    unfold foldP
    exact key_fold (b := b) (key_put h (h2 p List.mem_cons_self)) fun q hq => h2 q (List.mem_cons_of_mem _ hq)
theorem key_canon {b : Bag} (h : KeyB b) : KeyB (canon b) := fun p hp => by
  unfold canon at hp
  have := (sortP_perm _).mem_iff.mp hp
  exact h p (List.mem_filter.mp this).1
theorem key_add {a b : Bag} (h : KeyB a) (h2 : KeyB b) : KeyB (addB a b) := key_canon (key_fold h h2)
theorem key_sub {a b : Bag} (h : KeyB a) (h2 : KeyB b) : KeyB (subB a b) := key_canon (key_fold h h2)
theorem key_drop {b : Bag} {l : Int} (h : KeyB b) : KeyB (dropB l b) := fun p hp => by
  obtain ⟨q, hq, e⟩ := dropB_keys l b p hp
  rw [← e]
  exact h q hq
theorem key_scale {b : Bag} {n : Int} (h : KeyB b) : KeyB (scaleB b n) := fun p hp => by
  unfold scaleB at hp
  split at hp
  · obtain ⟨q, hq, rfl⟩ := List.mem_map.mp hp
    exact h q hq
  · cases hp
/-! ### numbers not too great -/
def BIG : Int := 2 ^ 400000
theorem lt_big {x : Int} (k : Nat) (h : x < 2 ^ k) (hk : k ≤ 400000) : x < BIG := by
  unfold BIG
  have : (2 : Int) ^ k ≤ 2 ^ 400000 := by
    have := Nat.pow_le_pow_right (n := 2) (by decide) hk
    exact_mod_cast this
  omega
/-! ### an effect whose numbers are known to be not too great -/
structure Em (e : Ef) (B : Int) : Prop where
  ok : e.Ok
  ki : KeyB e.I
  ks : KeyB e.S
  ti : tot e.I ≤ B
  rb : e.r ≤ B
section
variable {e f : Ef} {B C : Int}
theorem Em.mono (h : Em e B) (l : B ≤ C) : Em e C := ⟨h.ok, h.ki, h.ks, Int.le_trans h.ti l, Int.le_trans h.rb l⟩
theorem Em.b0 (h : Em e B) : 0 ≤ B := Int.le_trans h.ok.r0 h.rb
theorem Em.li (h : Em e B) : e.I.length ≤ 1800001 := key_len h.ok.vi h.ki
theorem Em.ls (h : Em e B) : e.S.length ≤ 1800001 := key_len h.ok.vs h.ks
theorem Em.kc (h : Em e B) : KeyB e.C := key_sub h.ki h.ks
theorem Em.lc (h : Em e B) : e.C.length ≤ 1800001 := key_len h.ok.vc h.kc
theorem em_id (h : 0 ≤ B) : Em idE B := ⟨idE_ok, key_nil, key_nil, h, h⟩
theorem Em.join (he : Em e B) (hf : Em f C) : Em (joinE e f) (B + C) := by
  have h1 := he.ti; have h2 := he.rb; have h3 := hf.ti; have h4 := hf.rb
  refine ⟨joinE_ok he.ok hf.ok, key_add he.ki hf.ki, key_add hf.ks (key_drop (key_add he.ks hf.kc)), ?_, ?_⟩
  · show tot (addB e.I f.I) ≤ _
    rw [tot_add he.ok.vi hf.ok.vi]; omega
  · show e.r + f.r ≤ _
    omega
theorem Em.pow (he : Em e B) {n : Int} (hn : 0 ≤ n) : Em (powE e n) (B * n) := by
  have h0 := Int.mul_le_mul_of_nonneg_right he.rb hn
  have h1 := Int.mul_le_mul_of_nonneg_right he.ti hn
  refine ⟨powE_ok he.ok hn, ?_, ?_, ?_, by rw [powE_r]; exact h0⟩
  · unfold powE; split
    · exact key_nil
    · exact key_scale he.ki
  · unfold powE; split
    · exact key_nil
    · exact key_add he.ks (key_scale (key_drop he.ki))
  · unfold powE; split
    · have := Int.mul_nonneg he.b0 hn
      exact this
    · show tot (scaleB e.I n) ≤ _
      rw [tot_scale hn, Int.mul_comm]
      exact h1
end
end HL

namespace HL
open PySem DL
variable [Ctr]
def partsD (e : Ef) : D := .tup [bagD e.I, .int e.r, bagD e.S]
def effD (e : Ef) : D := .inst "Effect" [("own_parts", partsD e)]
theorem puresD3 {a b c : D} (h1 : pureD a = true) (h2 : pureD b = true) (h3 : pureD c = true) : puresD [a, b, c] = true := pure_cons h1 (pure_cons h2 (pure_cons h3 rfl))
theorem pure_parts (e : Ef) : pureD (partsD e) = true := puresD3 (pb _) rfl (pb _)
theorem pure_eff (e : Ef) : pureD (effD e) = true := by
  show (pureD (partsD e) && true) = true
  rw [pure_parts]
  rfl
section
variable {e f : Ef} {B C : Int} {M : Mem} {b : Bag} {P : D → Mem → Prop} {W : Wi} {env : DL.Env}
theorem w_isB {b : Bag} {M : Mem} {P : D → Mem → Prop} : wO (gIs (bagD b) .non M) P = P (.bl false) M := rfl
theorem w_isnN {M : Mem} {P : D → Mem → Prop} : wO (gIsNot .non .non M) P = P (.bl false) M := rfl
theorem e_subT {a b : Bag} (ha : Val a) (z : a.length + b.length ≤ 4000000) (h : hasB a b = true) : callF F_bags_subtract [bagD a, bagD b] M = .ok (bagD (subB a b)) M := by
  rw [e_subtract ha z, if_pos h]
theorem e_fault (h : Em e B) : callF F_effects_find_fault [bagD e.I, .int e.r, bagD e.S] M = .ok .non M := by
  refine callP_eq (puresD3 (pb _) rfl (pb _)) rfl ?_
  have hs := e_subT (M := []) h.ok.vi (by have := h.li; have := h.ls; omega) h.ok.has
  simp only [F_effects_find_fault, c_effects_find_fault, c_effects_find_fault_1, c_effects_find_fault_2, w_defn1, w_defn2, w_defn3, w_defn4, w_defn5, w_seq, w_snil, w_asg, w_expr, w_ret, w_retN, w_brk, w_cont, w_sif, ifB_bl, notB_bl, w_gN, w_par, w_par3, w_gsNil, w_gsCons, w_gT2, w_gT3, w_gTi2, w_var0, w_varS, w_c, w_nil, w_cons, w_tup, w_lst, w_new, w_newD, w_op, w_gI, w_add, w_chain, w_not, w_and, w_or, w_if, w_call, w_fn, w_fnN, w_make, w_neg, w_negI, w_t20, w_t21, w_t30, w_t31, w_t32, w_min2, w_max2, w_lenT, w_for, w_iA, wO_ok, w_cmt, List.map, List.replicate, List.set, List.append, wipeE, decide_eq_true_eq, Bool.not_true, Bool.not_false, Bool.false_eq_true, if_true, if_false, Bool.not_eq_true, decide_eq_false_iff_not, Bool.true_eq_false, reduceIte, decide_true, decide_false, Nat.reduceSub, Nat.add_zero, hs, w_isB]
  have ht := e_total (b := subB e.I e.S) (M := []) (by have := h.lc; unfold Ef.C at this; omega)
  have h2 : ¬ tot (subB e.I e.S) > e.r := by have := h.ok.totC; unfold Ef.C at this; have := h.ok.rt; omega
  simp only [w_defn1, w_defn2, w_defn3, w_defn4, w_defn5, w_seq, w_snil, w_asg, w_expr, w_ret, w_retN, w_brk, w_cont, w_sif, ifB_bl, notB_bl, w_gN, w_par, w_par3, w_gsNil, w_gsCons, w_gT2, w_gT3, w_gTi2, w_var0, w_varS, w_c, w_nil, w_cons, w_tup, w_lst, w_new, w_newD, w_op, w_gI, w_add, w_chain, w_not, w_and, w_or, w_if, w_call, w_fn, w_fnN, w_make, w_neg, w_negI, w_t20, w_t21, w_t30, w_t31, w_t32, w_min2, w_max2, w_lenT, w_for, w_iA, wO_ok, w_cmt, List.map, List.replicate, List.set, List.append, wipeE, decide_eq_true_eq, Bool.not_true, Bool.not_false, Bool.false_eq_true, if_true, if_false, Bool.not_eq_true, decide_eq_false_iff_not, Bool.true_eq_false, reduceIte, decide_true, decide_false, Nat.reduceSub, Nat.add_zero, ht, h2]
theorem w_sfld {c f : Str} {fo fv : Ev} {env : DL.Env} {M : Mem} {W : Wi} : wS (sFldS c f fo fv env M) W = wO (fv env M) fun v M1 => wO (fo env M1) fun d M2 => match d with
  | .ref l => match M2[l]? with
    | some (.ins c' fs) => (c' = c ∧ fs.length < 1000) ∧ W.nx env (M2.set l (.ins c (putFD f v fs)))
    | _ => False
  | _ => False := by
  unfold sFldS
  rw [wS_bind]; congr; funext v M1
  rw [wS_bind]; congr; funext d M2
  cases d with
  | ref l =>
    simp only
    cases hm : M2[l]? with
    | none => rfl
    | some ob =>
      cases ob with
      | ins c' fs =>
        simp only
        by_cases hz : c' = c ∧ fs.length < 1000
        · rw [if_pos hz]; simp [hz, wS]
        · rw [if_neg hz]; simp [hz, wS]
      | _ => rfl
  | _ => rfl
/-- an effect is made -/
theorem e_make (h : Em e B) : makeF "Effect" F_Effect_init [bagD e.I, .int e.r, bagD e.S] M = .ok (effD e) M := by
  have key : wO (F_Effect_init (.ref 0 :: [bagD e.I, .int e.r, bagD e.S]) [.ins "Effect" []]) fun d M2 => d = .non ∧ M2 = [.ins "Effect" [("own_parts", partsD e)]] := by
    have z1 := h.li
    have z2 := h.ls
    have q1 := e_check_bag (M := [Ob.ins "Effect" []]) h.ok.vi (by omega)
    have q2 := e_check_bag (M := [Ob.ins "Effect" []]) h.ok.vs (by omega)
    have q3 := e_check_count (M := [Ob.ins "Effect" []]) h.ok.r0
    have q4 := e_fault (M := [Ob.ins "Effect" []]) h
    simp only [F_Effect_init, c_Effect_init, c_Effect_init_1, c_Effect_init_2, c_Effect_init_3, c_Effect_init_4, c_Effect_init_5, w_defn1, w_defn2, w_defn3, w_defn4, w_defn5, w_seq, w_snil, w_asg, w_expr, w_ret, w_retN, w_brk, w_cont, w_sif, ifB_bl, notB_bl, w_gN, w_par, w_par3, w_gsNil, w_gsCons, w_gT2, w_gT3, w_gTi2, w_var0, w_varS, w_c, w_nil, w_cons, w_tup, w_lst, w_new, w_newD, w_op, w_gI, w_add, w_chain, w_not, w_and, w_or, w_if, w_call, w_fn, w_fnN, w_make, w_neg, w_negI, w_t20, w_t21, w_t30, w_t31, w_t32, w_min2, w_max2, w_lenT, w_for, w_iA, wO_ok, w_cmt, List.map, List.replicate, List.set, List.append, wipeE, decide_eq_true_eq, Bool.not_true, Bool.not_false, Bool.false_eq_true, if_true, if_false, Bool.not_eq_true, decide_eq_false_iff_not, Bool.true_eq_false, reduceIte, decide_true, decide_false, Nat.reduceSub, Nat.add_zero, q1, q2, q3, q4, w_isnN, w_sfld, List.getElem?_cons_zero]
    exact ⟨⟨trivial, by decide⟩, trivial, rfl⟩
  obtain ⟨d, M2, e2, rfl, rfl⟩ := wO_ex key
  have hp : puresF [(Str.ofString "own_parts", partsD e)] = true := by
    show (pureD (partsD e) && true) = true
    rw [pure_parts]
    rfl
  unfold makeF
  rw [if_pos (puresD3 (pb _) rfl (pb _)), e2]
  simp only [List.getElem?_cons_zero (α := Ob)]
  rw [if_pos ⟨trivial, hp⟩]
  rfl
/-! ### what an effect shows -/
def fldW (c f : Str) (d : D) (M : Mem) (P : D → Mem → Prop) : Prop := wO (match insD M d with
  | some (c', fs) => if c' = c then (match getFD f fs with
    | some x => Out.ok x M
    | none => .st) else .st
  | none => .st) P
theorem w_fld {c f : Str} {fo : Ev} : wO (eFld c f fo env M) P = wO (fo env M) fun d M1 => fldW c f d M1 P := by unfold eFld; rw [wO_bind]; rfl
theorem w_parts : fldW "Effect" "own_parts" (effD e) M P = P (partsD e) M := by
  unfold fldW effD insD
  simp only [if_true]
  have : getFD "own_parts" [(Str.ofString "own_parts", partsD e)] = some (partsD e) := by
    unfold getFD
    simp
  rw [this]
  rfl
theorem w_parts0 : wO (gIx (partsD e) (.int 0) M) P = P (bagD e.I) M := rfl
theorem w_parts1 : wO (gIx (partsD e) (.int 1) M) P = P (.int e.r) M := rfl
theorem w_parts2 : wO (gIx (partsD e) (.int 2) M) P = P (bagD e.S) M := rfl
def propW (c : Str) (F : Fn) (d : D) (M : Mem) (P : D → Mem → Prop) : Prop := wO (match insD M d with
  | some (c', fs) => if c' = c then okO (callF F [d] M) else .st
  | none => .st) P
theorem w_prop {c : Str} {F : Fn} {fo : Ev} : wO (eProp c F fo env M) P = wO (fo env M) fun d M1 => propW c F d M1 P := by unfold eProp; rw [wO_bind]; rfl
theorem w_propE {F : Fn} {r : D} (h : callF F [effD e] M = .ok r M) : propW "Effect" F (effD e) M P = P r M := by
  unfold propW
  rw [h]
  unfold effD insD
  simp only [if_true]
  rfl
def methW (c m : Str) (F : Fn) (fl : EvL) (env : DL.Env) (d : D) (M : Mem) (P : D → Mem → Prop) : Prop := wO (match insD M d with
  | some (c', fs) => if c' = c ∧ getFD m fs = none then (fl env M).bind fun ds M2 => callF F (d :: ds) M2 else .st
  | none => .st) P
theorem w_meth {c m : Str} {F : Fn} {fo : Ev} {fl : EvL} : wO (eMeth c m F fo fl env M) P = wO (fo env M) fun d M1 => methW c m F fl env d M1 P := by unfold eMeth; rw [wO_bind]; rfl
theorem w_methE {m : Str} {F : Fn} {fl : EvL} (hm : (m == Str.ofString "own_parts") = false) : methW "Effect" m F fl env (effD e) M P = wL (fl env M) fun ds M2 => wO (callF F (effD e :: ds) M2) P := by
  unfold methW
  have hg : getFD m [(Str.ofString "own_parts", partsD e)] = none := by
    unfold getFD
    rw [hm]
    rfl
  rw [← wO_bindL]
  unfold effD insD
  simp only
  rw [if_pos ⟨trivial, hg⟩]
theorem w_methP {F : Fn} {fl : EvL} : methW "Effect" "pool" F fl env (effD e) M P = wL (fl env M) fun ds M2 => wO (callF F (effD e :: ds) M2) P := w_methE (by decide)
theorem e_inserted : callF F_Effect_inserted [effD e] M = .ok (bagD e.I) M := by
  refine callP_eq (pure_cons (pure_eff _) rfl) (pb _) ?_
  simp only [F_Effect_inserted, c_Effect_inserted, w_defn1, w_defn2, w_defn3, w_defn4, w_defn5, w_seq, w_snil, w_asg, w_expr, w_ret, w_retN, w_brk, w_cont, w_sif, ifB_bl, notB_bl, w_gN, w_par, w_par3, w_gsNil, w_gsCons, w_gT2, w_gT3, w_gTi2, w_var0, w_varS, w_c, w_nil, w_cons, w_tup, w_lst, w_new, w_newD, w_op, w_gI, w_add, w_chain, w_not, w_and, w_or, w_if, w_call, w_fn, w_fnN, w_make, w_neg, w_negI, w_t20, w_t21, w_t30, w_t31, w_t32, w_min2, w_max2, w_lenT, w_for, w_iA, wO_ok, w_cmt, List.map, List.replicate, List.set, List.append, wipeE, decide_eq_true_eq, Bool.not_true, Bool.not_false, Bool.false_eq_true, if_true, if_false, Bool.not_eq_true, decide_eq_false_iff_not, Bool.true_eq_false, reduceIte, decide_true, decide_false, Nat.reduceSub, Nat.add_zero, w_fld, w_parts, w_parts0]
theorem e_removals : callF F_Effect_removals [effD e] M = .ok (.int e.r) M := by
  refine callP_eq (pure_cons (pure_eff _) rfl) rfl ?_
  simp only [F_Effect_removals, c_Effect_removals, w_defn1, w_defn2, w_defn3, w_defn4, w_defn5, w_seq, w_snil, w_asg, w_expr, w_ret, w_retN, w_brk, w_cont, w_sif, ifB_bl, notB_bl, w_gN, w_par, w_par3, w_gsNil, w_gsCons, w_gT2, w_gT3, w_gTi2, w_var0, w_varS, w_c, w_nil, w_cons, w_tup, w_lst, w_new, w_newD, w_op, w_gI, w_add, w_chain, w_not, w_and, w_or, w_if, w_call, w_fn, w_fnN, w_make, w_neg, w_negI, w_t20, w_t21, w_t30, w_t31, w_t32, w_min2, w_max2, w_lenT, w_for, w_iA, wO_ok, w_cmt, List.map, List.replicate, List.set, List.append, wipeE, decide_eq_true_eq, Bool.not_true, Bool.not_false, Bool.false_eq_true, if_true, if_false, Bool.not_eq_true, decide_eq_false_iff_not, Bool.true_eq_false, reduceIte, decide_true, decide_false, Nat.reduceSub, Nat.add_zero, w_fld, w_parts, w_parts1]
theorem e_survivors : callF F_Effect_survivors [effD e] M = .ok (bagD e.S) M := by
  refine callP_eq (pure_cons (pure_eff _) rfl) (pb _) ?_
  simp only [F_Effect_survivors, c_Effect_survivors, w_defn1, w_defn2, w_defn3, w_defn4, w_defn5, w_seq, w_snil, w_asg, w_expr, w_ret, w_retN, w_brk, w_cont, w_sif, ifB_bl, notB_bl, w_gN, w_par, w_par3, w_gsNil, w_gsCons, w_gT2, w_gT3, w_gTi2, w_var0, w_varS, w_c, w_nil, w_cons, w_tup, w_lst, w_new, w_newD, w_op, w_gI, w_add, w_chain, w_not, w_and, w_or, w_if, w_call, w_fn, w_fnN, w_make, w_neg, w_negI, w_t20, w_t21, w_t30, w_t31, w_t32, w_min2, w_max2, w_lenT, w_for, w_iA, wO_ok, w_cmt, List.map, List.replicate, List.set, List.append, wipeE, decide_eq_true_eq, Bool.not_true, Bool.not_false, Bool.false_eq_true, if_true, if_false, Bool.not_eq_true, decide_eq_false_iff_not, Bool.true_eq_false, reduceIte, decide_true, decide_false, Nat.reduceSub, Nat.add_zero, w_fld, w_parts, w_parts2]
theorem e_consumed (h : Em e B) : callF F_Effect_consumed [effD e] M = .ok (bagD e.C) M := by
  refine callP_eq (pure_cons (pure_eff _) rfl) (pb _) ?_
  have hs := e_subT (M := []) h.ok.vi (by have := h.li; have := h.ls; omega) h.ok.has
  simp only [F_Effect_consumed, c_Effect_consumed, w_defn1, w_defn2, w_defn3, w_defn4, w_defn5, w_seq, w_snil, w_asg, w_expr, w_ret, w_retN, w_brk, w_cont, w_sif, ifB_bl, notB_bl, w_gN, w_par, w_par3, w_gsNil, w_gsCons, w_gT2, w_gT3, w_gTi2, w_var0, w_varS, w_c, w_nil, w_cons, w_tup, w_lst, w_new, w_newD, w_op, w_gI, w_add, w_chain, w_not, w_and, w_or, w_if, w_call, w_fn, w_fnN, w_make, w_neg, w_negI, w_t20, w_t21, w_t30, w_t31, w_t32, w_min2, w_max2, w_lenT, w_for, w_iA, wO_ok, w_cmt, List.map, List.replicate, List.set, List.append, wipeE, decide_eq_true_eq, Bool.not_true, Bool.not_false, Bool.false_eq_true, if_true, if_false, Bool.not_eq_true, decide_eq_false_iff_not, Bool.true_eq_false, reduceIte, decide_true, decide_false, Nat.reduceSub, Nat.add_zero, w_fld, w_parts, w_parts0, w_parts2, hs]
  rfl
theorem e_needed (h : Em e B) : callF F_Effect_needed [effD e] M = .ok (.int e.need) M := by
  refine callP_eq (pure_cons (pure_eff _) rfl) rfl ?_
  have h1 := e_total (b := e.I) (M := []) (by have := h.li; omega)
  have h2 := e_total (b := e.S) (M := []) (by have := h.ls; omega)
  simp only [F_Effect_needed, c_Effect_needed, w_defn1, w_defn2, w_defn3, w_defn4, w_defn5, w_seq, w_snil, w_asg, w_expr, w_ret, w_retN, w_brk, w_cont, w_sif, ifB_bl, notB_bl, w_gN, w_par, w_par3, w_gsNil, w_gsCons, w_gT2, w_gT3, w_gTi2, w_var0, w_varS, w_c, w_nil, w_cons, w_tup, w_lst, w_new, w_newD, w_op, w_gI, w_add, w_chain, w_not, w_and, w_or, w_if, w_call, w_fn, w_fnN, w_make, w_neg, w_negI, w_t20, w_t21, w_t30, w_t31, w_t32, w_min2, w_max2, w_lenT, w_for, w_iA, wO_ok, w_cmt, List.map, List.replicate, List.set, List.append, wipeE, decide_eq_true_eq, Bool.not_true, Bool.not_false, Bool.false_eq_true, if_true, if_false, Bool.not_eq_true, decide_eq_false_iff_not, Bool.true_eq_false, reduceIte, decide_true, decide_false, Nat.reduceSub, Nat.add_zero, w_fld, w_parts, w_parts0, w_parts1, w_parts2, h1, h2]
  rfl
theorem e_pool (h : Em e B) (hb : Val b) (kb : KeyB b) (hn : e.need ≤ tot b) : callF F_Effect_pool [effD e, bagD b] M = .ok (bagD (addB b e.C)) M := by
  refine callP_eq (pure_cons (pure_eff _) (pure_cons (pb _) rfl)) (pb _) ?_
  have z := key_len hb kb
  have z2 := h.lc
  have h1 := e_check_bag (M := []) hb (by omega)
  have h2 := e_total (b := b) (M := []) (by omega)
  have h3 := e_add (a := b) (b := e.C) (M := []) hb (by omega)
  simp only [F_Effect_pool, c_Effect_pool, c_Effect_pool_1, c_Effect_pool_2, w_defn1, w_defn2, w_defn3, w_defn4, w_defn5, w_seq, w_snil, w_asg, w_expr, w_ret, w_retN, w_brk, w_cont, w_sif, ifB_bl, notB_bl, w_gN, w_par, w_par3, w_gsNil, w_gsCons, w_gT2, w_gT3, w_gTi2, w_var0, w_varS, w_c, w_nil, w_cons, w_tup, w_lst, w_new, w_newD, w_op, w_gI, w_add, w_chain, w_not, w_and, w_or, w_if, w_call, w_fn, w_fnN, w_make, w_neg, w_negI, w_t20, w_t21, w_t30, w_t31, w_t32, w_min2, w_max2, w_lenT, w_for, w_iA, wO_ok, w_cmt, List.map, List.replicate, List.set, List.append, wipeE, decide_eq_true_eq, Bool.not_true, Bool.not_false, Bool.false_eq_true, if_true, if_false, Bool.not_eq_true, decide_eq_false_iff_not, Bool.true_eq_false, reduceIte, decide_true, decide_false, Nat.reduceSub, Nat.add_zero, w_prop, h1, h2, w_propE (e_needed h), w_propE (e_consumed h), h3, show ¬ tot b < e.need by omega]
theorem e_apply (h : Em e B) (hb : Val b) (kb : KeyB b) (hn : e.need ≤ tot b) : callF F_Effect_apply [effD e, bagD b] M = .ok (bagD (e.ap b)) M := by
  refine callP_eq (pure_cons (pure_eff _) (pure_cons (pb _) rfl)) (pb _) ?_
  have v := val_add hb e.C
  have z2 := key_len v (key_add kb h.kc)
  have z3 := h.ls
  have z4 := len_drop e.r (addB b e.C)
  have h1 := e_pool (M := []) h hb kb hn
  have h2 := e_drop (b := addB b e.C) (n := e.r) (M := []) (by omega)
  have h3 := e_add (a := e.S) (b := dropB e.r (addB b e.C)) (M := []) h.ok.vs (by omega)
  simp only [F_Effect_apply, c_Effect_apply, w_defn1, w_defn2, w_defn3, w_defn4, w_defn5, w_seq, w_snil, w_asg, w_expr, w_ret, w_retN, w_brk, w_cont, w_sif, ifB_bl, notB_bl, w_gN, w_par, w_par3, w_gsNil, w_gsCons, w_gT2, w_gT3, w_gTi2, w_var0, w_varS, w_c, w_nil, w_cons, w_tup, w_lst, w_new, w_newD, w_op, w_gI, w_add, w_chain, w_not, w_and, w_or, w_if, w_call, w_fn, w_fnN, w_make, w_neg, w_negI, w_t20, w_t21, w_t30, w_t31, w_t32, w_min2, w_max2, w_lenT, w_for, w_iA, wO_ok, w_cmt, List.map, List.replicate, List.set, List.append, wipeE, decide_eq_true_eq, Bool.not_true, Bool.not_false, Bool.false_eq_true, if_true, if_false, Bool.not_eq_true, decide_eq_false_iff_not, Bool.true_eq_false, reduceIte, decide_true, decide_false, Nat.reduceSub, Nat.add_zero, w_prop, w_meth, w_methP, h1, h2, w_propE e_survivors, w_propE e_removals, h3]
  rfl
theorem e_removed (h : Em e B) (hb : Val b) (kb : KeyB b) (hn : e.need ≤ tot b) : callF F_Effect_removed [effD e, bagD b] M = .ok (bagD (e.rm b)) M := by
  refine callP_eq (pure_cons (pure_eff _) (pure_cons (pb _) rfl)) (pb _) ?_
  have v := val_add hb e.C
  have z2 := key_len v (key_add kb h.kc)
  have h1 := e_pool (M := []) h hb kb hn
  have h2 := e_take (b := addB b e.C) (n := e.r) (M := []) (by omega)
  simp only [F_Effect_removed, c_Effect_removed, w_defn1, w_defn2, w_defn3, w_defn4, w_defn5, w_seq, w_snil, w_asg, w_expr, w_ret, w_retN, w_brk, w_cont, w_sif, ifB_bl, notB_bl, w_gN, w_par, w_par3, w_gsNil, w_gsCons, w_gT2, w_gT3, w_gTi2, w_var0, w_varS, w_c, w_nil, w_cons, w_tup, w_lst, w_new, w_newD, w_op, w_gI, w_add, w_chain, w_not, w_and, w_or, w_if, w_call, w_fn, w_fnN, w_make, w_neg, w_negI, w_t20, w_t21, w_t30, w_t31, w_t32, w_min2, w_max2, w_lenT, w_for, w_iA, wO_ok, w_cmt, List.map, List.replicate, List.set, List.append, wipeE, decide_eq_true_eq, Bool.not_true, Bool.not_false, Bool.false_eq_true, if_true, if_false, Bool.not_eq_true, decide_eq_false_iff_not, Bool.true_eq_false, reduceIte, decide_true, decide_false, Nat.reduceSub, Nat.add_zero, w_prop, w_meth, w_methP, h1, h2, w_propE e_removals]
  rfl
theorem key_ap (h : Em e B) (kb : KeyB b) : KeyB (e.ap b) := key_add h.ks (key_drop (key_add kb h.kc))
/-! ### effects joined, repeated -/
instance : DecidableEq Ef := fun a b => by
  cases a; cases b
  simp only [Ef.mk.injEq]
  exact inferInstance
def gMul1 (n : Int) : D → Option D
  | .tup [x, .int c] => some (.tup [x, .int (c * n)])
  | _ => none
/-- the composition of a list of effects -/
def joinL (es : List Ef) : Ef := es.foldl joinE idE
end
end HL

namespace HL
open PySem DL
variable [Ctr]
theorem all_set {M : Mem} {l : Nat} {ob : Ob} (h : M.all pureOb = true) (ho : pureOb ob = true) : (M.set l ob).all pureOb = true := by
  rw [List.all_eq_true] at h ⊢
  intro x hx
  rcases List.mem_or_eq_of_mem_set hx with q | rfl
  · exact h x q
  · exact ho
theorem c11 {i j : Int} (h : -(2 ^ 64) < i ∧ i < 2 ^ 64) : cMul i j = true := by
  unfold cMul
  rw [decide_eq_true (Or.inl h)]
  rfl
theorem c12 {i j : Int} (h : -(2 ^ 64) < j ∧ j < 2 ^ 64) : cMul i j = true := by
  unfold cMul
  rw [decide_eq_true (Or.inr h)]
  rfl
theorem cdv {i m : Int} (h : 0 < m) (h2 : m ≤ 1000000000000000000000000000001) : cDivW i m = true := by
  unfold cDivW
  refine decide_eq_true ⟨h, ?_⟩
  have hne : m.natAbs ≠ 0 := by omega
  refine (Nat.log2_lt hne).mpr (Nat.lt_of_lt_of_le (m := 2 ^ 100) ?_ (Nat.pow_le_pow_right (by decide) (by decide)))
  show m.natAbs < 1267650600228229401496703205376
  omega
theorem w_set2 {l : Nat} {i : Int} {j : Nat} {fo fi : Ev} {v : D} {xs : List D} {env : DL.Env} {M : Mem} {W : Wi} (h1 : fo env M = .ok (.ref l) M) (h2 : fi env M = .ok (.int i) M) (hl : M[l]? = some (.lst xs)) (hi : L2.ixN xs.length i = some j) : wS (gSub fo fi v env M) W = W.nx env (M.set l (.lst (xs.set j v))) := by
  unfold gSub
  simp only [h1, h2, hl, hi]
  rfl
theorem sp_draw {l : Nat} {M : Mem} {m x0 x1 : Int} {P : D → Mem → Prop} (hl : M[l]? = some (.lst [.int x0, .int x1])) (hx : 0 ≤ x0) (hm : 0 < m) (hm2 : m ≤ 1000000000000000000000000000001) (hp : M.all pureOb = true)
    (hP : ∀ r y0 y1, 0 ≤ r → r < m → 0 ≤ y0 → P (.int r) (M.set l (.lst [.int y0, .int y1]))) : wO (callF F_q_draw [.ref l, .int m] M) P := by
  refine w_callM rfl ?_
  have hlt : l < M.length := (List.getElem?_eq_some_iff.mp hl).1
  have fin : ∀ r y0 y1 : Int, 0 ≤ r → r < m → 0 ≤ y0 → pureD (.int r) = true ∧ ((M.set l (.lst [.int y0, .int y1])).take M.length).all pureOb = true ∧ P (.int r) ((M.set l (.lst [.int y0, .int y1])).take M.length) := fun r y0 y1 a b c => by
    have e : (M.set l (.lst [.int y0, .int y1])).take M.length = M.set l (.lst [.int y0, .int y1]) := List.take_of_length_le (by simp)
    rw [e]
    exact ⟨rfl, all_set hp rfl, hP r y0 y1 a b c⟩
  simp only [F_q_draw, c_q_draw, c_q_draw_1, c_q_draw_2, c_q_draw_3, c_q_draw_4, w_defn1, w_defn2, w_defn3, w_defn4, w_defn5, w_seq, w_snil, w_asg, w_expr, w_ret, w_retN, w_brk, w_cont, w_sif, ifB_bl, notB_bl, w_gN, w_par, w_par3, w_gsNil, w_gsCons, w_gT2, w_gT3, w_gTi2, w_var0, w_varS, w_c, w_nil, w_cons, w_tup, w_lst, w_new, w_newD, w_op, w_gI, w_add, w_chain, w_not, w_and, w_or, w_if, w_call, w_fn, w_fnN, w_make, w_neg, w_negI, w_t20, w_t21, w_t30, w_t31, w_t32, w_min2, w_max2, w_lenT, w_for, w_iA, wO_ok, w_cmt, List.map, List.replicate, List.set, List.append, wipeE, decide_eq_true_eq, Bool.not_true, Bool.not_false, Bool.false_eq_true, if_true, if_false, Bool.not_eq_true, decide_eq_false_iff_not, Bool.true_eq_false, reduceIte, decide_true, decide_false, Nat.reduceSub, Nat.add_zero]
  rw [w_ixR (d := .int x0) hl rfl]
  simp only [w_gI, ifB_bl, decide_eq_true_eq]
  by_cases h0 : x0 > 0
  · rw [if_pos h0]
    try simp only [w_defn1, w_defn2, w_defn3, w_defn4, w_defn5, w_seq, w_snil, w_asg, w_expr, w_ret, w_retN, w_brk, w_cont, w_sif, ifB_bl, notB_bl, w_gN, w_par, w_par3, w_gsNil, w_gsCons, w_gT2, w_gT3, w_gTi2, w_var0, w_varS, w_c, w_nil, w_cons, w_tup, w_lst, w_new, w_newD, w_op, w_gI, w_add, w_chain, w_not, w_and, w_or, w_if, w_call, w_fn, w_fnN, w_make, w_neg, w_negI, w_t20, w_t21, w_t30, w_t31, w_t32, w_min2, w_max2, w_lenT, w_for, w_iA, wO_ok, w_cmt, List.map, List.replicate, List.set, List.append, wipeE, decide_eq_true_eq, Bool.not_true, Bool.not_false, Bool.false_eq_true, if_true, if_false, Bool.not_eq_true, decide_eq_false_iff_not, Bool.true_eq_false, reduceIte, decide_true, decide_false, Nat.reduceSub, Nat.add_zero]
    rw [w_ixR (d := .int x0) hl rfl]
    simp only [w_defn1, w_defn2, w_defn3, w_defn4, w_defn5, w_seq, w_snil, w_asg, w_expr, w_ret, w_retN, w_brk, w_cont, w_sif, ifB_bl, notB_bl, w_gN, w_par, w_par3, w_gsNil, w_gsCons, w_gT2, w_gT3, w_gTi2, w_var0, w_varS, w_c, w_nil, w_cons, w_tup, w_lst, w_new, w_newD, w_op, w_gI, w_add, w_chain, w_not, w_and, w_or, w_if, w_call, w_fn, w_fnN, w_make, w_neg, w_negI, w_t20, w_t21, w_t30, w_t31, w_t32, w_min2, w_max2, w_lenT, w_for, w_iA, wO_ok, w_cmt, List.map, List.replicate, List.set, List.append, wipeE, decide_eq_true_eq, Bool.not_true, Bool.not_false, Bool.false_eq_true, if_true, if_false, Bool.not_eq_true, decide_eq_false_iff_not, Bool.true_eq_false, reduceIte, decide_true, decide_false, Nat.reduceSub, Nat.add_zero, w_gInt]
    refine ⟨decide_eq_true hm, ?_⟩
    rw [w_ixR (d := .int x0) hl rfl]
    simp only [w_gInt, w_defn1, w_defn2, w_defn3, w_defn4, w_defn5, w_seq, w_snil, w_asg, w_expr, w_ret, w_retN, w_brk, w_cont, w_sif, ifB_bl, notB_bl, w_gN, w_par, w_par3, w_gsNil, w_gsCons, w_gT2, w_gT3, w_gTi2, w_var0, w_varS, w_c, w_nil, w_cons, w_tup, w_lst, w_new, w_newD, w_op, w_gI, w_add, w_chain, w_not, w_and, w_or, w_if, w_call, w_fn, w_fnN, w_make, w_neg, w_negI, w_t20, w_t21, w_t30, w_t31, w_t32, w_min2, w_max2, w_lenT, w_for, w_iA, wO_ok, w_cmt, List.map, List.replicate, List.set, List.append, wipeE, decide_eq_true_eq, Bool.not_true, Bool.not_false, Bool.false_eq_true, if_true, if_false, Bool.not_eq_true, decide_eq_false_iff_not, Bool.true_eq_false, reduceIte, decide_true, decide_false, Nat.reduceSub, Nat.add_zero]
    refine ⟨cdv hm hm2, ?_⟩
    rw [w_set2 (l := l) (i := 0) (j := 0) rfl rfl hl rfl]
    simp only [w_defn1, w_defn2, w_defn3, w_defn4, w_defn5, w_seq, w_snil, w_asg, w_expr, w_ret, w_retN, w_brk, w_cont, w_sif, ifB_bl, notB_bl, w_gN, w_par, w_par3, w_gsNil, w_gsCons, w_gT2, w_gT3, w_gTi2, w_var0, w_varS, w_c, w_nil, w_cons, w_tup, w_lst, w_new, w_newD, w_op, w_gI, w_add, w_chain, w_not, w_and, w_or, w_if, w_call, w_fn, w_fnN, w_make, w_neg, w_negI, w_t20, w_t21, w_t30, w_t31, w_t32, w_min2, w_max2, w_lenT, w_for, w_iA, wO_ok, w_cmt, List.map, List.replicate, List.set, List.append, wipeE, decide_eq_true_eq, Bool.not_true, Bool.not_false, Bool.false_eq_true, if_true, if_false, Bool.not_eq_true, decide_eq_false_iff_not, Bool.true_eq_false, reduceIte, decide_true, decide_false, Nat.reduceSub, Nat.add_zero]
    exact fin _ _ _ (Int.emod_nonneg _ (by omega)) (Int.emod_lt_of_pos _ hm) (Int.ediv_nonneg hx (by omega))
  · rw [if_neg h0]
    try simp only [w_defn1, w_defn2, w_defn3, w_defn4, w_defn5, w_seq, w_snil, w_asg, w_expr, w_ret, w_retN, w_brk, w_cont, w_sif, ifB_bl, notB_bl, w_gN, w_par, w_par3, w_gsNil, w_gsCons, w_gT2, w_gT3, w_gTi2, w_var0, w_varS, w_c, w_nil, w_cons, w_tup, w_lst, w_new, w_newD, w_op, w_gI, w_add, w_chain, w_not, w_and, w_or, w_if, w_call, w_fn, w_fnN, w_make, w_neg, w_negI, w_t20, w_t21, w_t30, w_t31, w_t32, w_min2, w_max2, w_lenT, w_for, w_iA, wO_ok, w_cmt, List.map, List.replicate, List.set, List.append, wipeE, decide_eq_true_eq, Bool.not_true, Bool.not_false, Bool.false_eq_true, if_true, if_false, Bool.not_eq_true, decide_eq_false_iff_not, Bool.true_eq_false, reduceIte, decide_true, decide_false, Nat.reduceSub, Nat.add_zero]
    rw [w_ixR (d := .int x1) hl rfl]
    rw [w_mul (c12 ⟨by decide, by decide⟩)]
    simp only [w_defn1, w_defn2, w_defn3, w_defn4, w_defn5, w_seq, w_snil, w_asg, w_expr, w_ret, w_retN, w_brk, w_cont, w_sif, ifB_bl, notB_bl, w_gN, w_par, w_par3, w_gsNil, w_gsCons, w_gT2, w_gT3, w_gTi2, w_var0, w_varS, w_c, w_nil, w_cons, w_tup, w_lst, w_new, w_newD, w_op, w_gI, w_add, w_chain, w_not, w_and, w_or, w_if, w_call, w_fn, w_fnN, w_make, w_neg, w_negI, w_t20, w_t21, w_t30, w_t31, w_t32, w_min2, w_max2, w_lenT, w_for, w_iA, wO_ok, w_cmt, List.map, List.replicate, List.set, List.append, wipeE, decide_eq_true_eq, Bool.not_true, Bool.not_false, Bool.false_eq_true, if_true, if_false, Bool.not_eq_true, decide_eq_false_iff_not, Bool.true_eq_false, reduceIte, decide_true, decide_false, Nat.reduceSub, Nat.add_zero, w_gInt]
    refine ⟨rfl, ?_⟩
    rw [w_set2 (l := l) (i := 1) (j := 1) rfl rfl hl rfl]
    simp only [List.set]
    generalize hy : (x1 * 48271 + 11) % 2147483647 = y
    have y0 : 0 ≤ y := by rw [← hy]; exact Int.emod_nonneg _ (by decide)
    have y1 : y < 2147483647 := by rw [← hy]; exact Int.emod_lt_of_pos _ (by decide)
    have hl2 : (M.set l (.lst [.int x0, .int y]))[l]? = some (.lst [.int x0, .int y]) := List.getElem?_set_self hlt
    simp only [w_defn1, w_defn2, w_defn3, w_defn4, w_defn5, w_seq, w_snil, w_asg, w_expr, w_ret, w_retN, w_brk, w_cont, w_sif, ifB_bl, notB_bl, w_gN, w_par, w_par3, w_gsNil, w_gsCons, w_gT2, w_gT3, w_gTi2, w_var0, w_varS, w_c, w_nil, w_cons, w_tup, w_lst, w_new, w_newD, w_op, w_gI, w_add, w_chain, w_not, w_and, w_or, w_if, w_call, w_fn, w_fnN, w_make, w_neg, w_negI, w_t20, w_t21, w_t30, w_t31, w_t32, w_min2, w_max2, w_lenT, w_for, w_iA, wO_ok, w_cmt, List.map, List.replicate, List.set, List.append, wipeE, decide_eq_true_eq, Bool.not_true, Bool.not_false, Bool.false_eq_true, if_true, if_false, Bool.not_eq_true, decide_eq_false_iff_not, Bool.true_eq_false, reduceIte, decide_true, decide_false, Nat.reduceSub, Nat.add_zero]
    rw [w_ixR (d := .int y) hl2 rfl]
    try simp only [w_defn1, w_defn2, w_defn3, w_defn4, w_defn5, w_seq, w_snil, w_asg, w_expr, w_ret, w_retN, w_brk, w_cont, w_sif, ifB_bl, notB_bl, w_gN, w_par, w_par3, w_gsNil, w_gsCons, w_gT2, w_gT3, w_gTi2, w_var0, w_varS, w_c, w_nil, w_cons, w_tup, w_lst, w_new, w_newD, w_op, w_gI, w_add, w_chain, w_not, w_and, w_or, w_if, w_call, w_fn, w_fnN, w_make, w_neg, w_negI, w_t20, w_t21, w_t30, w_t31, w_t32, w_min2, w_max2, w_lenT, w_for, w_iA, wO_ok, w_cmt, List.map, List.replicate, List.set, List.append, wipeE, decide_eq_true_eq, Bool.not_true, Bool.not_false, Bool.false_eq_true, if_true, if_false, Bool.not_eq_true, decide_eq_false_iff_not, Bool.true_eq_false, reduceIte, decide_true, decide_false, Nat.reduceSub, Nat.add_zero]
    try rw [w_ixR (d := .int y) hl2 rfl]
    rw [w_mul (c12 ⟨by omega, by omega⟩)]
    simp only [w_defn1, w_defn2, w_defn3, w_defn4, w_defn5, w_seq, w_snil, w_asg, w_expr, w_ret, w_retN, w_brk, w_cont, w_sif, ifB_bl, notB_bl, w_gN, w_par, w_par3, w_gsNil, w_gsCons, w_gT2, w_gT3, w_gTi2, w_var0, w_varS, w_c, w_nil, w_cons, w_tup, w_lst, w_new, w_newD, w_op, w_gI, w_add, w_chain, w_not, w_and, w_or, w_if, w_call, w_fn, w_fnN, w_make, w_neg, w_negI, w_t20, w_t21, w_t30, w_t31, w_t32, w_min2, w_max2, w_lenT, w_for, w_iA, wO_ok, w_cmt, List.map, List.replicate, List.set, List.append, wipeE, decide_eq_true_eq, Bool.not_true, Bool.not_false, Bool.false_eq_true, if_true, if_false, Bool.not_eq_true, decide_eq_false_iff_not, Bool.true_eq_false, reduceIte, decide_true, decide_false, Nat.reduceSub, Nat.add_zero, w_gInt]
    refine ⟨rfl, cdv (by decide) (by decide), decide_eq_true hm, ?_⟩
    exact fin _ _ _ (Int.emod_nonneg _ (by omega)) (Int.emod_lt_of_pos _ hm) hx

theorem w_sl {xs : List D} {n : Int} {fa : Ev} {env : DL.Env} {M : Mem} {P : D → Mem → Prop} (h : fa env M = .ok (.fzl xs) M) : wO (eSl fa oNone (oSome (eC (.int n))) env M) P = P (.lst (cutD xs none (some n))) M := by
  unfold eSl
  rw [h]
  rfl
theorem cut_int (ns : List Int) (lo hi : Option Int) : ∃ ms : List Int, cutD (ns.map D.int) lo hi = ms.map D.int := by
  unfold cutD
  exact ⟨(ns.drop _).take _, by rw [List.map_take, List.map_drop]⟩
theorem w_lenF {xs : List D} {M : Mem} {P : D → Mem → Prop} : wO (nLen [.fzl xs] M) P = P (.int xs.length) M := rfl
theorem w_ixF {xs : List D} {i : Int} {d : D} {M : Mem} {P : D → Mem → Prop} (ha : L2.atI xs i = some d) : wO (gIx (.fzl xs) (.int i) M) P = P d M := by
  unfold gIx
  have : seqD M (.fzl xs) = some xs := rfl
  simp only [this, ha]
  rfl
theorem w_abs {i : Int} {M : Mem} {P : D → Mem → Prop} : wO (nAbs [.int i] M) P = P (.int (if i < 0 then -i else i)) M := rfl
theorem w_intB {b : Bool} {M : Mem} {P : D → Mem → Prop} : wO (nInt [.bl b] M) P = P (.int (if b then 1 else 0)) M := rfl
theorem w_pow {j : Int} (h : 0 ≤ j ∧ j ≤ 1000000) {M : Mem} {P : D → Mem → Prop} : wO (gPowI (.int 10) (.int j) M) P = P (.int (10 ^ j.toNat)) M := by
  unfold gPowI
  rw [w_gInt]
  have : cPow 10 j = true := decide_eq_true ⟨h.1, h.2, by decide⟩
  simp [this]
theorem sp_pool_ {ns : List Int} {k : Int} {M : Mem} {P : D → Mem → Prop} (h0 : 0 ≤ k) (h1 : k ≤ 63) (hP : ∀ x0 x1, 0 ≤ x0 → P (.ref M.length) (M ++ [.lst [.int x0, .int x1]])) : wO (newF F_q_pool [.fzl (ns.map .int), .int k] M) P := by
  have hpi : ∀ ns : List Int, puresD (ns.map D.int) = true := fun ns => by
    induction ns with
    | nil => rfl
    | cons n ns ih => show (pureD (.int n) && puresD (ns.map D.int)) = true; rw [ih]; rfl
  refine w_newF (by show (puresD (ns.map D.int) && _) = true; rw [hpi]; rfl) ?_
  obtain ⟨ms, hms⟩ := cut_int ns none (some 63)
  have rest : ∀ cell : Int, wS (c_q_pool_3 [some (.fzl (ns.map D.int)), some (.int k), some (.int cell), none, none] []) { nx := fun _ M1 => ∃ l ob, D.non = .ref l ∧ M1[l]? = some ob ∧ pureOb ob = true ∧ P (.ref M.length) (M ++ [ob]), rt := fun d M1 => ∃ l ob, d = .ref l ∧ M1[l]? = some ob ∧ pureOb ob = true ∧ P (.ref M.length) (M ++ [ob]) } := by
    intro cell
    simp only [c_q_pool_3, c_q_pool_2, c_q_pool_1, w_defn1, w_defn2, w_defn3, w_defn4, w_defn5, w_seq, w_snil, w_asg, w_expr, w_ret, w_retN, w_brk, w_cont, w_sif, ifB_bl, notB_bl, w_gN, w_par, w_par3, w_gsNil, w_gsCons, w_gT2, w_gT3, w_gTi2, w_var0, w_varS, w_c, w_nil, w_cons, w_tup, w_lst, w_new, w_newD, w_op, w_gI, w_add, w_chain, w_not, w_and, w_or, w_if, w_call, w_fn, w_fnN, w_make, w_neg, w_negI, w_t20, w_t21, w_t30, w_t31, w_t32, w_min2, w_max2, w_lenT, w_for, w_iA, wO_ok, w_cmt, List.map, List.replicate, List.set, List.append, wipeE, decide_eq_true_eq, Bool.not_true, Bool.not_false, Bool.false_eq_true, if_true, if_false, Bool.not_eq_true, decide_eq_false_iff_not, Bool.true_eq_false, reduceIte, decide_true, decide_false, Nat.reduceSub, Nat.add_zero, w_abs, w_gInt]
    generalize hg : (if cell < 0 then -cell else cell) = g
    have g0 : 0 ≤ g := by rw [← hg]; split <;> omega
    refine ⟨rfl, ?_⟩
    rw [w_mul (c11 ⟨by decide, by decide⟩), w_mul (c12 ⟨by omega, by omega⟩)]
    simp only [w_add]
    rw [w_mul (c11 ⟨by decide, by decide⟩)]
    simp only [w_add]
    rw [w_mul (c12 ⟨by decide, by decide⟩)]
    simp only [w_defn1, w_defn2, w_defn3, w_defn4, w_defn5, w_seq, w_snil, w_asg, w_expr, w_ret, w_retN, w_brk, w_cont, w_sif, ifB_bl, notB_bl, w_gN, w_par, w_par3, w_gsNil, w_gsCons, w_gT2, w_gT3, w_gTi2, w_var0, w_varS, w_c, w_nil, w_cons, w_tup, w_lst, w_new, w_newD, w_op, w_gI, w_add, w_chain, w_not, w_and, w_or, w_if, w_call, w_fn, w_fnN, w_make, w_neg, w_negI, w_t20, w_t21, w_t30, w_t31, w_t32, w_min2, w_max2, w_lenT, w_for, w_iA, wO_ok, w_cmt, List.map, List.replicate, List.set, List.append, wipeE, decide_eq_true_eq, Bool.not_true, Bool.not_false, Bool.false_eq_true, if_true, if_false, Bool.not_eq_true, decide_eq_false_iff_not, Bool.true_eq_false, reduceIte, decide_true, decide_false, Nat.reduceSub, Nat.add_zero, w_gInt]
    refine ⟨rfl, ?_⟩
    refine ⟨rfl, ?_⟩
    simp only [w_defn1, w_defn2, w_defn3, w_defn4, w_defn5, w_seq, w_snil, w_asg, w_expr, w_ret, w_retN, w_brk, w_cont, w_sif, ifB_bl, notB_bl, w_gN, w_par, w_par3, w_gsNil, w_gsCons, w_gT2, w_gT3, w_gTi2, w_var0, w_varS, w_c, w_nil, w_cons, w_tup, w_lst, w_new, w_newD, w_op, w_gI, w_add, w_chain, w_not, w_and, w_or, w_if, w_call, w_fn, w_fnN, w_make, w_neg, w_negI, w_t20, w_t21, w_t30, w_t31, w_t32, w_min2, w_max2, w_lenT, w_for, w_iA, wO_ok, w_cmt, List.map, List.replicate, List.set, List.append, wipeE, decide_eq_true_eq, Bool.not_true, Bool.not_false, Bool.false_eq_true, if_true, if_false, Bool.not_eq_true, decide_eq_false_iff_not, Bool.true_eq_false, reduceIte, decide_true, decide_false, Nat.reduceSub, Nat.add_zero, w_intB, decide_eq_true_eq]
    generalize hb : (if (10 : Int) ^ Int.toNat 18 ≤ g then (1 : Int) else 0) = b
    have hb1 : 0 ≤ b ∧ b ≤ 1 := by rw [← hb]; split <;> omega
    generalize hy : (g % 2147483629 + 7919 * k * k + 31 * k + 17) * 48271 % 2147483647 = y
    have y0 : 0 ≤ y := by rw [← hy]; exact Int.emod_nonneg _ (by decide)
    have y1 : y < 2147483647 := by rw [← hy]; exact Int.emod_lt_of_pos _ (by decide)
    rw [w_mul (c12 ⟨by omega, by omega⟩), w_mul (c12 ⟨by omega, by omega⟩)]
    simp only [w_defn1, w_defn2, w_defn3, w_defn4, w_defn5, w_seq, w_snil, w_asg, w_expr, w_ret, w_retN, w_brk, w_cont, w_sif, ifB_bl, notB_bl, w_gN, w_par, w_par3, w_gsNil, w_gsCons, w_gT2, w_gT3, w_gTi2, w_var0, w_varS, w_c, w_nil, w_cons, w_tup, w_lst, w_new, w_newD, w_op, w_gI, w_add, w_chain, w_not, w_and, w_or, w_if, w_call, w_fn, w_fnN, w_make, w_neg, w_negI, w_t20, w_t21, w_t30, w_t31, w_t32, w_min2, w_max2, w_lenT, w_for, w_iA, wO_ok, w_cmt, List.map, List.replicate, List.set, List.append, wipeE, decide_eq_true_eq, Bool.not_true, Bool.not_false, Bool.false_eq_true, if_true, if_false, Bool.not_eq_true, decide_eq_false_iff_not, Bool.true_eq_false, reduceIte, decide_true, decide_false, Nat.reduceSub, Nat.add_zero, w_gInt]
    exact ⟨rfl, 0, _, rfl, rfl, rfl, hP _ _ (Int.mul_nonneg g0 hb1.1)⟩
  simp only [F_q_pool, c_q_pool, c_q_pool_4, w_defn1, w_defn2, w_defn3, w_defn4, w_defn5, w_seq, w_snil, w_asg, w_expr, w_ret, w_retN, w_brk, w_cont, w_sif, ifB_bl, notB_bl, w_gN, w_par, w_par3, w_gsNil, w_gsCons, w_gT2, w_gT3, w_gTi2, w_var0, w_varS, w_c, w_nil, w_cons, w_tup, w_lst, w_new, w_newD, w_op, w_gI, w_add, w_chain, w_not, w_and, w_or, w_if, w_call, w_fn, w_fnN, w_make, w_neg, w_negI, w_t20, w_t21, w_t30, w_t31, w_t32, w_min2, w_max2, w_lenT, w_for, w_iA, wO_ok, w_cmt, List.map, List.replicate, List.set, List.append, wipeE, decide_eq_true_eq, Bool.not_true, Bool.not_false, Bool.false_eq_true, if_true, if_false, Bool.not_eq_true, decide_eq_false_iff_not, Bool.true_eq_false, reduceIte, decide_true, decide_false, Nat.reduceSub, Nat.add_zero]
  rw [w_sl (xs := ns.map D.int) rfl, hms, w_sumL, w_mul (c11 ⟨by decide, by decide⟩)]
  simp only [w_defn1, w_defn2, w_defn3, w_defn4, w_defn5, w_seq, w_snil, w_asg, w_expr, w_ret, w_retN, w_brk, w_cont, w_sif, ifB_bl, notB_bl, w_gN, w_par, w_par3, w_gsNil, w_gsCons, w_gT2, w_gT3, w_gTi2, w_var0, w_varS, w_c, w_nil, w_cons, w_tup, w_lst, w_new, w_newD, w_op, w_gI, w_add, w_chain, w_not, w_and, w_or, w_if, w_call, w_fn, w_fnN, w_make, w_neg, w_negI, w_t20, w_t21, w_t30, w_t31, w_t32, w_min2, w_max2, w_lenT, w_for, w_iA, wO_ok, w_cmt, List.map, List.replicate, List.set, List.append, wipeE, decide_eq_true_eq, Bool.not_true, Bool.not_false, Bool.false_eq_true, if_true, if_false, Bool.not_eq_true, decide_eq_false_iff_not, Bool.true_eq_false, reduceIte, decide_true, decide_false, Nat.reduceSub, Nat.add_zero, w_lenF]
  by_cases hk : k < ((ns.map D.int).length : Int)
  · rw [if_pos hk]
    have hk2 : k.toNat < ns.length := by simp at hk; omega
    rw [w_ixF (d := .int ns[k.toNat]) (by
      unfold L2.atI L2.ixN
      rw [if_pos h0, if_pos hk]
      show (ns.map D.int)[k.toNat]? = _
      rw [List.getElem?_map, List.getElem?_eq_getElem hk2]
      rfl)]
    exact rest ns[k.toNat]
  · rw [if_neg hk]
    exact rest (11 * ms.sum + k)
def StP (l : Nat) (M : Mem) : Prop := (∃ x0 x1 : Int, 0 ≤ x0 ∧ M[l]? = some (.lst [.int x0, .int x1])) ∧ M.all pureOb = true
/-- the same store but for the pool -/
def Nxt (l : Nat) (M M' : Mem) : Prop := StP l M' ∧ M'.length = M.length ∧ ∀ j, j ≠ l → M'[j]? = M[j]?
theorem Nxt.trans {l : Nat} {M M1 M2 : Mem} (a : Nxt l M M1) (b : Nxt l M1 M2) : Nxt l M M2 := ⟨b.1, b.2.1.trans a.2.1, fun j h => (b.2.2 j h).trans (a.2.2 j h)⟩
theorem sp_drawS {l : Nat} {M : Mem} {m : Int} {P : D → Mem → Prop} (h : StP l M) (hm : 0 < m) (hm2 : m ≤ 1000000000000000000000000000001) (hP : ∀ r M', 0 ≤ r → r < m → Nxt l M M' → P (.int r) M') : wO (callF F_q_draw [.ref l, .int m] M) P := by
  obtain ⟨⟨x0, x1, hx, hl⟩, hp⟩ := h
  have hlt : l < M.length := (List.getElem?_eq_some_iff.mp hl).1
  refine sp_draw hl hx hm hm2 hp fun r y0 y1 a b c => hP _ _ a b ⟨⟨⟨y0, y1, c, List.getElem?_set_self hlt⟩, all_set hp rfl⟩, by simp, fun j h => List.getElem?_set_ne (Ne.symm h)⟩
theorem w_ix3 {a b c : D} {r : Int} {M : Mem} {P : D → Mem → Prop} (h0 : 0 ≤ r) (h1 : r < 3) (ha : P a M) (hb : P b M) (hc : P c M) : wO (gIx (.lst [a, b, c]) (.int r) M) P := by
  have : r = 0 ∨ r = 1 ∨ r = 2 := by omega
  rcases this with rfl | rfl | rfl
  · exact ha
  · exact hb
  · exact hc
theorem w_p30 {M : Mem} {P : D → Mem → Prop} : wO (gPowI (.int 10) (.int 30) M) P = P (.int 1000000000000000000000000000000) M := by
  rw [w_pow ⟨by decide, by decide⟩]
  rfl
/-- 0, a small number, a number below a given one -/
theorem sp_big {l : Nat} {M : Mem} {P : D → Mem → Prop} (h : StP l M) (hP : ∀ v M', 0 ≤ v → v ≤ 1000000000000000000000000000000 → Nxt l M M' → P (.int v) M') : wO (callF F_q_draw [.ref l, .int 4] M) fun d M1 =>
    wO (gPowI (.int 10) (.int 30) M1) fun d1 M2 => wO (callF F_q_draw [.ref l, d1] M2) fun d2 M3 => wO (callF F_q_draw [.ref l, .int 3] M3) fun y M4 => wO (gIx (.lst [.int 0, d, d2]) y M4) P := by
  refine sp_drawS h (by decide) (by decide) fun a M1 a0 a1 n1 => ?_
  rw [w_p30]
  refine sp_drawS n1.1 (by decide) (by decide) fun b M2 b0 b1 n2 => ?_
  refine sp_drawS n2.1 (by decide) (by decide) fun r M3 r0 r1 n3 => ?_
  have n := (n1.trans n2).trans n3
  exact w_ix3 r0 r1 (hP 0 M3 (by decide) (by decide) n) (hP a M3 a0 (by omega) n) (hP b M3 b0 (by omega) n)
theorem sp_some {l : Nat} {v : Int} {M : Mem} {P : D → Mem → Prop} (h : StP l M) (v0 : 0 ≤ v) (v1 : v ≤ 1000000000000000000000000000000) (hP : ∀ s M', 0 ≤ s → s ≤ v → Nxt l M M' → P (.int s) M') :
    wO (callF F_q_draw [.ref l, .int (v + 1)] M) fun d M2 => wO (callF F_q_draw [.ref l, .int 3] M2) fun y M3 => wO (gIx (.lst [.int 0, .int v, d]) y M3) P := by
  refine sp_drawS h (by omega) (by omega) fun b M2 b0 b1 n2 => ?_
  refine sp_drawS n2.1 (by decide) (by decide) fun r M3 r0 r1 n3 => ?_
  have n := n2.trans n3
  exact w_ix3 r0 r1 (hP 0 M3 (by decide) (by omega) n) (hP v M3 v0 (by omega) n) (hP b M3 b0 (by omega) n)
/-! a number, how many come in, how many stay -/
abbrev Tri := Int × Int × Int
def triA (T : List Tri) : Bag := T.map fun t => (t.1, t.2.1)
def triB (T : List Tri) : Bag := T.map fun t => (t.1, t.2.2)
structure TriOk (T : List Tri) (i : Nat) : Prop where
  len : T.length = i
  key : ∀ (j : Nat) t, T[j]? = some t → t.1 = -3 + (j : Int)
  bnd : ∀ t ∈ T, 0 ≤ t.2.2 ∧ t.2.2 ≤ t.2.1 ∧ t.2.1 ≤ 1000000000000000000000000000000
theorem TriOk.snoc {T : List Tri} {i : Nat} (h : TriOk T i) {m s : Int} (h0 : 0 ≤ s) (h1 : s ≤ m) (h2 : m ≤ 1000000000000000000000000000000) : TriOk (T ++ [(-3 + (i : Int), m, s)]) (i + 1) := by
  refine ⟨by simp [h.len], fun j t hj => ?_, fun t ht => ?_⟩
  · by_cases e : j < T.length
    · rw [List.getElem?_append_left e] at hj
      exact h.key j t hj
    · have : j = T.length := by
        have := (List.getElem?_eq_some_iff.mp hj).1
        simp at this
        omega
      subst this
      rw [List.getElem?_concat_length] at hj
      cases hj
      rw [h.len]
  · rcases List.mem_append.mp ht with q | q
    · exact h.bnd t q
    · obtain rfl := List.mem_singleton.mp q
      exact ⟨h0, h1, h2⟩
theorem tot_app : ∀ (a : Bag) (p : Int × Int), tot (a ++ [p]) = tot a + p.2
  | [], p => by simp [tot]
  | q :: a, p => by
    show q.2 + tot (a ++ [p]) = q.2 + tot a + p.2
    rw [tot_app a p]
    omega
def posB (b : Bag) : Bag := b.filter fun p => decide (0 < p.2)
theorem tot_pos : ∀ (b : Bag), (∀ p ∈ b, 0 ≤ p.2) → tot (posB b) = tot b
  | [], _ => rfl
  | p :: b, h => by
    have ih := tot_pos b fun q hq => h q (List.mem_cons_of_mem _ hq)
    have hp := h p List.mem_cons_self
    unfold posB at ih ⊢
    rw [List.filter_cons]
    split
    · show p.2 + tot _ = p.2 + tot b
      rw [ih]
    · rename_i q
      have : ¬ 0 < p.2 := by simpa using q
      rw [ih]
      show tot b = p.2 + tot b
      omega
theorem val_pos {b : Bag} (h : b.Pairwise fun p q => p.1 < q.1) : Val (posB b) := by
  refine ⟨h.sublist (List.filter_sublist), fun p hp => ?_⟩
  have := (List.mem_filter.mp hp).2
  have : 0 < p.2 := of_decide_eq_true this
  omega
theorem TriOk.pw {T : List Tri} {i : Nat} (h : TriOk T i) : T.Pairwise fun s t => s.1 < t.1 := by
  refine List.pairwise_iff_getElem.mpr ?_
  intro a b ha hb hab
  have h1 := h.key a _ (List.getElem?_eq_getElem ha)
  have h2 := h.key b _ (List.getElem?_eq_getElem hb)
  omega
theorem w_r34 {env : DL.Env} {M : Mem} {P : List D → (Mem → Bool) → Mem → Prop} : wI (iR2 (eNeg (eC (.int 3))) (eC (.int 4)) env M) P = P (rangeD (-3) 7) cYes M := rfl
theorem range_at {lo : Int} {n i : Nat} {d : D} (h : (rangeD lo n)[i]? = some d) : i < n ∧ d = .int (lo + (i : Int)) := by
  unfold rangeD at h
  rw [List.getElem?_map] at h
  cases q : (List.range n)[i]? with
  | none => rw [q] at h; cases h
  | some j =>
    rw [q] at h
    cases h
    obtain ⟨h1, h2⟩ := List.getElem?_eq_some_iff.mp q
    simp at h1 h2
    subst h2
    exact ⟨h1, rfl⟩
theorem w_appT {n : Nat} {ys : List D} {fa : Ev} {v : D} {env : DL.Env} {M : Mem} {P : D → Mem → Prop} (h : M[n]? = some (.lst ys)) (hv : fa env M = .ok v M) (hz : ys.length < sizeLine) (hP : P .non (M.set n (.lst (ys ++ [v])))) : appW (.ref n) fa env M P := by
  rw [w_appR h, hv]
  show (match M[n]? with
      | some (.lst xs) => xs.length < sizeLine ∧ P .non (M.set n (.lst (xs ++ [v])))
      | _ => False)
  rw [h]
  exact ⟨hz, hP⟩
def gKeep : D → Option D
  | .tup [x, .int c] => if 0 < c then some (.tup [x, .int c]) else none
  | _ => none
theorem gKeep_eq (p : Int × Int) : gKeep (pairD p) = if 0 < p.2 then some (pairD p) else none := rfl
theorem fm_keep : ∀ b : Bag, (b.map pairD).filterMap gKeep = (posB b).map pairD
  | [] => rfl
  | p :: b => by
    rw [List.map_cons, List.filterMap_cons, fm_keep b, gKeep_eq]
    unfold posB
    by_cases e : 0 < p.2
    · rw [if_pos e, List.filter_cons_of_pos (by simpa using e)]
      rfl
    · rw [if_neg e, List.filter_cons_of_neg (by simpa using e)]
theorem w_keep {n i k : Nat} {b : Bag} {env : DL.Env} {M : Mem} {P : D → Mem → Prop} (hv : env[i]? = some (some (.ref n))) (hM : M[n]? = some (.lst (b.map pairD))) (hz : b.length ≤ 1000000) (hk : k < env.length) (hP : P (.lst ((posB b).map pairD)) M) :
    wO (eLc [k] (iA (eVar i)) (gN k) (eOp gGt (eOp gIx (eVar k) (eC (.int 1))) (eC (.int 0))) (eVar k) env M) P := by
  rw [w_lc (ds := b.map pairD) (chk := chkL (.ref n) (b.map pairD)) (M1 := M) gKeep (by
    rw [w_iA, w_var hv]
    have : derefL M (.ref n) = some (b.map pairD) := by unfold derefL; simp only [hM]
    show wI (match derefL M (.ref n) with
    | some xs => .ok xs (chkL (.ref n) xs) M
    | none => .st) _
    rw [this]
    exact ⟨rfl, rfl, rfl⟩) (by simp; exact le_line (by omega)) (chkL_of hM)]
  · rw [fm_keep]
    exact hP
  · intro d hd
    obtain ⟨p, _, rfl⟩ := List.mem_map.mp hd
    have hk2 : (wipeE env [k]).length = env.length := by simp [wipeE]
    have hg : ((wipeE env [k]).set k (some (pairD p)))[k]? = some (some (pairD p)) := List.getElem?_set_self (by rw [hk2]; exact hk)
    simp only [w_gN, w_op]
    rw [w_var hg]
    simp only [pairD, w_c, w_t21, w_gI]
    refine ⟨trivial, ?_⟩
    by_cases e : 0 < p.2
    · refine .inl ⟨by rw [decide_eq_true e], ?_⟩
      have hg : ((wipeE env [k]).set k (some (.tup [.int p.1, .int p.2])))[k]? = some (some (.tup [.int p.1, .int p.2])) := hg
      rw [w_var hg]
      exact ⟨rfl, by rw [show D.tup [.int p.1, .int p.2] = pairD p from rfl, gKeep_eq, if_pos e]⟩
    · exact .inr ⟨by rw [decide_eq_false e], by rw [show D.tup [.int p.1, .int p.2] = pairD p from rfl, gKeep_eq, if_neg e]⟩
theorem cnt_pos : ∀ (b : Bag) (k : Int), (∀ p ∈ b, 0 ≤ p.2) → cnt (posB b) k = cnt b k
  | [], _, _ => rfl
  | p :: b, k, h => by
    have ih := cnt_pos b k fun q hq => h q (List.mem_cons_of_mem _ hq)
    have hp := h p List.mem_cons_self
    unfold posB at ih ⊢
    rw [List.filter_cons]
    split
    · unfold cnt
      rw [ih]
    · rename_i q
      have : ¬ 0 < p.2 := by simpa using q
      rw [ih]
      show cnt b k = (if p.1 = k then p.2 else 0) + cnt b k
      split <;> omega
theorem tri_cnt : ∀ (T : List Tri) (k : Int), (∀ t ∈ T, 0 ≤ t.2.2 ∧ t.2.2 ≤ t.2.1 ∧ t.2.1 ≤ 1000000000000000000000000000000) → cnt (triB T) k ≤ cnt (triA T) k
  | [], k, _ => Int.le_refl 0
  | t :: T, k, h => by
    have ih := tri_cnt T k fun q hq => h q (List.mem_cons_of_mem _ hq)
    have ht := h t List.mem_cons_self
    show (if t.1 = k then t.2.2 else 0) + cnt (triB T) k ≤ (if t.1 = k then t.2.1 else 0) + cnt (triA T) k
    split <;> omega
def triE (T : List Tri) (m : Int) : Ef := ⟨posB (triA T), tot (triA T) - tot (triB T) + m, posB (triB T)⟩
def EB : Int := 8000000000000000000000000000000
section
variable [Zero0]
theorem tri_ok {T : List Tri} (h : TriOk T 7) {m : Int} (hm : 0 ≤ m) (hm2 : m ≤ 1000000000000000000000000000000) : Em (triE T m) EB := by
  have na : ∀ p ∈ triA T, 0 ≤ p.2 := fun p hp => by
    obtain ⟨t, ht, rfl⟩ := List.mem_map.mp hp
    have := h.bnd t ht
    show 0 ≤ t.2.1
    omega
  have nb : ∀ p ∈ triB T, 0 ≤ p.2 := fun p hp => by
    obtain ⟨t, ht, rfl⟩ := List.mem_map.mp hp
    have := h.bnd t ht
    show 0 ≤ t.2.2
    omega
  have vi : Val (posB (triA T)) := val_pos (List.pairwise_map.mpr (h.pw.imp fun {x y} z => z))
  have vs : Val (posB (triB T)) := val_pos (List.pairwise_map.mpr (h.pw.imp fun {x y} z => z))
  have nn : hasB (posB (triA T)) (posB (triB T)) = true := (hasB_iff vi).mpr fun k => by
    rw [cnt_pos _ _ na, cnt_pos _ _ nb]
    exact tri_cnt T k h.bnd
  have lt : ∀ T : List Tri, (∀ t ∈ T, 0 ≤ t.2.2 ∧ t.2.2 ≤ t.2.1 ∧ t.2.1 ≤ 1000000000000000000000000000000) → tot (triB T) ≤ tot (triA T) := by
    intro T
    induction T with
    | nil => intro _; exact Int.le_refl 0
    | cons t T ih =>
      intro h
      have ih := ih fun q hq => h q (List.mem_cons_of_mem _ hq)
      have ht := h t List.mem_cons_self
      show t.2.2 + tot (triB T) ≤ t.2.1 + tot (triA T)
      omega
  have l3 := lt T h.bnd
  have tb : tot (triA T) ≤ 1000000000000000000000000000000 * (T.length : Int) := by
    have hb := h.bnd
    clear h nn vi vs l3 lt na nb
    induction T with
    | nil => exact Int.le_refl 0
    | cons t T ih =>
      have ih := ih fun q hq => hb q (List.mem_cons_of_mem _ hq)
      have ht := hb t List.mem_cons_self
      rw [List.length_cons]
      show t.2.1 + tot (triA T) ≤ _
      omega
  rw [h.len] at tb
  have kk : ∀ t ∈ T, Near t.1 := fun t ht => by
    obtain ⟨i, hi, e⟩ := List.mem_iff_getElem.mp ht
    have := h.key i t (by rw [List.getElem?_eq_getElem hi, e])
    have := h.len
    exact near_small (by omega) (by omega)
  have t0 := tot_nn vs
  rw [tot_pos _ nb] at t0
  refine ⟨⟨vi, vs, nn, ?_, ?_⟩, ?_, ?_, ?_, ?_⟩
  · show 0 ≤ tot (triA T) - tot (triB T) + m; omega
  · show tot (posB (triA T)) - tot (posB (triB T)) ≤ tot (triA T) - tot (triB T) + m
    rw [tot_pos _ na, tot_pos _ nb]; omega
  · intro p hp
    obtain ⟨t, ht, rfl⟩ := List.mem_map.mp (List.mem_filter.mp hp).1
    exact kk t ht
  · intro p hp
    obtain ⟨t, ht, rfl⟩ := List.mem_map.mp (List.mem_filter.mp hp).1
    exact kk t ht
  · show tot (posB (triA T)) ≤ EB
    rw [tot_pos _ na]; unfold EB; omega
  · show tot (triA T) - tot (triB T) + m ≤ EB
    unfold EB; omega
theorem sp_gbody {l a b : Nat} {M : Mem} {W : Wi} {X Y : Bag} {c n : Int} (hst : StP l M) (hA : M[a]? = some (.lst (X.map pairD))) (hB : M[b]? = some (.lst (Y.map pairD))) (ab : a ≠ b) (la : a ≠ l) (lb : b ≠ l) (zX : X.length ≤ 1000) (zY : Y.length ≤ 1000)
    (hP : ∀ v s M', 0 ≤ s → s ≤ v → v ≤ 1000000000000000000000000000000 → StP l M' → M'.length = M.length → M'[a]? = some (.lst ((X ++ [(n, v)]).map pairD)) → M'[b]? = some (.lst ((Y ++ [(n, s)]).map pairD)) → (∀ j, j ≠ l → j ≠ a → j ≠ b → M'[j]? = M[j]?) →
      W.nx [some (.ref l), some (.ref a), some (.ref b), some (.int (c + v - s)), some (.int n), some (.int v), some (.int s), none, none] M') :
    wS (c_q_great_effect_5 [some (.ref l), some (.ref a), some (.ref b), some (.int c), some (.int n), none, none, none, none] M) W := by
  have lta := (List.getElem?_eq_some_iff.mp hA).1
  have ltb := (List.getElem?_eq_some_iff.mp hB).1
  simp only [c_q_great_effect_5, w_defn1, w_defn2, w_defn3, w_defn4, w_defn5, w_seq, w_snil, w_asg, w_expr, w_ret, w_retN, w_brk, w_cont, w_sif, ifB_bl, notB_bl, w_gN, w_par, w_par3, w_gsNil, w_gsCons, w_gT2, w_gT3, w_gTi2, w_var0, w_varS, w_c, w_nil, w_cons, w_tup, w_lst, w_new, w_newD, w_op, w_gI, w_add, w_chain, w_not, w_and, w_or, w_if, w_call, w_fn, w_fnN, w_make, w_neg, w_negI, w_t20, w_t21, w_t30, w_t31, w_t32, w_min2, w_max2, w_lenT, w_for, w_iA, wO_ok, w_cmt, List.map, List.replicate, List.set, List.append, wipeE, decide_eq_true_eq, Bool.not_true, Bool.not_false, Bool.false_eq_true, if_true, if_false, Bool.not_eq_true, decide_eq_false_iff_not, Bool.true_eq_false, reduceIte, decide_true, decide_false, Nat.reduceSub, Nat.add_zero]
  refine sp_big hst fun v M1 v0 v1 n1 => ?_
  simp only [c_q_great_effect_4, w_defn1, w_defn2, w_defn3, w_defn4, w_defn5, w_seq, w_snil, w_asg, w_expr, w_ret, w_retN, w_brk, w_cont, w_sif, ifB_bl, notB_bl, w_gN, w_par, w_par3, w_gsNil, w_gsCons, w_gT2, w_gT3, w_gTi2, w_var0, w_varS, w_c, w_nil, w_cons, w_tup, w_lst, w_new, w_newD, w_op, w_gI, w_add, w_chain, w_not, w_and, w_or, w_if, w_call, w_fn, w_fnN, w_make, w_neg, w_negI, w_t20, w_t21, w_t30, w_t31, w_t32, w_min2, w_max2, w_lenT, w_for, w_iA, wO_ok, w_cmt, List.map, List.replicate, List.set, List.append, wipeE, decide_eq_true_eq, Bool.not_true, Bool.not_false, Bool.false_eq_true, if_true, if_false, Bool.not_eq_true, decide_eq_false_iff_not, Bool.true_eq_false, reduceIte, decide_true, decide_false, Nat.reduceSub, Nat.add_zero]
  refine sp_some n1.1 v0 v1 fun s M2 s0 s1 n2 => ?_
  have n3 := n1.trans n2
  have hA2 : M2[a]? = some (.lst (X.map pairD)) := (n3.2.2 _ la).trans hA
  have hB2 : M2[b]? = some (.lst (Y.map pairD)) := (n3.2.2 _ lb).trans hB
  have hl2 : M2.length = M.length := n3.2.1
  simp only [c_q_great_effect_3, w_defn1, w_defn2, w_defn3, w_defn4, w_defn5, w_seq, w_snil, w_asg, w_expr, w_ret, w_retN, w_brk, w_cont, w_sif, ifB_bl, notB_bl, w_gN, w_par, w_par3, w_gsNil, w_gsCons, w_gT2, w_gT3, w_gTi2, w_var0, w_varS, w_c, w_nil, w_cons, w_tup, w_lst, w_new, w_newD, w_op, w_gI, w_add, w_chain, w_not, w_and, w_or, w_if, w_call, w_fn, w_fnN, w_make, w_neg, w_negI, w_t20, w_t21, w_t30, w_t31, w_t32, w_min2, w_max2, w_lenT, w_for, w_iA, wO_ok, w_cmt, List.map, List.replicate, List.set, List.append, wipeE, decide_eq_true_eq, Bool.not_true, Bool.not_false, Bool.false_eq_true, if_true, if_false, Bool.not_eq_true, decide_eq_false_iff_not, Bool.true_eq_false, reduceIte, decide_true, decide_false, Nat.reduceSub, Nat.add_zero, w_app]
  refine w_appT (v := pairD (n, v)) hA2 rfl (by simp; exact lt_line (by omega)) ?_
  have hB3 : (M2.set a (.lst (X.map pairD ++ [pairD (n, v)])))[b]? = some (.lst (Y.map pairD)) := by
    rw [List.getElem?_set_ne ab]; exact hB2
  simp only [c_q_great_effect_2, w_defn1, w_defn2, w_defn3, w_defn4, w_defn5, w_seq, w_snil, w_asg, w_expr, w_ret, w_retN, w_brk, w_cont, w_sif, ifB_bl, notB_bl, w_gN, w_par, w_par3, w_gsNil, w_gsCons, w_gT2, w_gT3, w_gTi2, w_var0, w_varS, w_c, w_nil, w_cons, w_tup, w_lst, w_new, w_newD, w_op, w_gI, w_add, w_chain, w_not, w_and, w_or, w_if, w_call, w_fn, w_fnN, w_make, w_neg, w_negI, w_t20, w_t21, w_t30, w_t31, w_t32, w_min2, w_max2, w_lenT, w_for, w_iA, wO_ok, w_cmt, List.map, List.replicate, List.set, List.append, wipeE, decide_eq_true_eq, Bool.not_true, Bool.not_false, Bool.false_eq_true, if_true, if_false, Bool.not_eq_true, decide_eq_false_iff_not, Bool.true_eq_false, reduceIte, decide_true, decide_false, Nat.reduceSub, Nat.add_zero, w_app]
  refine w_appT (v := pairD (n, s)) hB3 rfl (by simp; exact lt_line (by omega)) ?_
  simp only [c_q_great_effect_1, w_defn1, w_defn2, w_defn3, w_defn4, w_defn5, w_seq, w_snil, w_asg, w_expr, w_ret, w_retN, w_brk, w_cont, w_sif, ifB_bl, notB_bl, w_gN, w_par, w_par3, w_gsNil, w_gsCons, w_gT2, w_gT3, w_gTi2, w_var0, w_varS, w_c, w_nil, w_cons, w_tup, w_lst, w_new, w_newD, w_op, w_gI, w_add, w_chain, w_not, w_and, w_or, w_if, w_call, w_fn, w_fnN, w_make, w_neg, w_negI, w_t20, w_t21, w_t30, w_t31, w_t32, w_min2, w_max2, w_lenT, w_for, w_iA, wO_ok, w_cmt, List.map, List.replicate, List.set, List.append, wipeE, decide_eq_true_eq, Bool.not_true, Bool.not_false, Bool.false_eq_true, if_true, if_false, Bool.not_eq_true, decide_eq_false_iff_not, Bool.true_eq_false, reduceIte, decide_true, decide_false, Nat.reduceSub, Nat.add_zero]
  have pp : ∀ (b : Bag) (p : Int × Int), pureOb (.lst (b.map pairD ++ [pairD p])) = true := fun b p => by
    have := pures_pairs (b ++ [p])
    rw [List.map_append] at this
    exact this
  refine hP v s _ s0 s1 v1 ⟨?_, all_set (all_set n3.1.2 (pp _ _)) (pp _ _)⟩ (by simp [hl2]) ?_ ?_ ?_
  · obtain ⟨⟨x0, x1, hx, hl⟩, _⟩ := n3.1
    exact ⟨x0, x1, hx, by rw [List.getElem?_set_ne lb, List.getElem?_set_ne la]; exact hl⟩
  · rw [List.getElem?_set_ne (Ne.symm ab), List.getElem?_set_self (by omega)]
    simp
  · rw [List.getElem?_set_self (by simp; omega)]
    simp
  · intro j h1 h2 h3
    rw [List.getElem?_set_ne (Ne.symm h3), List.getElem?_set_ne (Ne.symm h2), n3.2.2 j h1]
theorem tri_key {T : List Tri} (h : TriOk T 7) {m : Int} : ∀ p ∈ (triE T m).I, p.1 ≤ 3 := fun p hp => by
  obtain ⟨t, ht, rfl⟩ := List.mem_map.mp (List.mem_filter.mp hp).1
  obtain ⟨i, hi, e⟩ := List.mem_iff_getElem.mp ht
  have := h.key i t (by rw [List.getElem?_eq_getElem hi, e])
  have := h.len
  show t.1 ≤ 3
  omega
theorem sp_greatK {l : Nat} {M : Mem} {P : D → Mem → Prop} (h : StP l M) (hP : ∀ e M', Em e EB → (∀ p ∈ e.I, p.1 ≤ 3) → Nxt l M M' → P (effD e) M') : wO (callF F_q_great_effect [.ref l] M) P := by
  have hln : l < M.length := by
    obtain ⟨⟨x0, x1, _, hl⟩, _⟩ := h
    exact (List.getElem?_eq_some_iff.mp hl).1
  refine w_callM rfl ?_
  simp only [F_q_great_effect, c_q_great_effect, c_q_great_effect_10, w_defn1, w_defn2, w_defn3, w_defn4, w_defn5, w_seq, w_snil, w_asg, w_expr, w_ret, w_retN, w_brk, w_cont, w_sif, ifB_bl, notB_bl, w_gN, w_par, w_par3, w_gsNil, w_gsCons, w_gT2, w_gT3, w_gTi2, w_var0, w_varS, w_c, w_nil, w_cons, w_tup, w_lst, w_new, w_newD, w_op, w_gI, w_add, w_chain, w_not, w_and, w_or, w_if, w_call, w_fn, w_fnN, w_make, w_neg, w_negI, w_t20, w_t21, w_t30, w_t31, w_t32, w_min2, w_max2, w_lenT, w_for, w_iA, wO_ok, w_cmt, List.map, List.replicate, List.set, List.append, wipeE, decide_eq_true_eq, Bool.not_true, Bool.not_false, Bool.false_eq_true, if_true, if_false, Bool.not_eq_true, decide_eq_false_iff_not, Bool.true_eq_false, reduceIte, decide_true, decide_false, Nat.reduceSub, Nat.add_zero, w_r34]
  refine w_forD (fun i e M' => ∃ (T : List Tri), e = [some (.ref l), some (.ref M.length), some (.ref (M.length + 1)), some (.int (tot (triA T) - tot (triB T))), none, none, none, none, none] ∧ TriOk T i ∧ StP l M' ∧ M'.length = M.length + 2 ∧
      M'[M.length]? = some (.lst ((triA T).map pairD)) ∧ M'[M.length + 1]? = some (.lst ((triB T).map pairD)) ∧ ∀ j, j < M.length → j ≠ l → M'[j]? = M[j]?)
    ⟨[], by simp [tot, triA, triB, wipeE], ⟨rfl, by simp, by simp⟩, ?_, by simp, ?_, ?_, ?_⟩ (fun _ _ _ _ => rfl) ?_ ?_
  · obtain ⟨⟨x0, x1, hx, hl⟩, hp⟩ := h
    refine ⟨⟨x0, x1, hx, ?_⟩, ?_⟩
    · rw [List.append_assoc, List.getElem?_append_left hln]; exact hl
    · rw [List.all_append, List.all_append, hp]; rfl
  · rw [List.append_assoc, List.getElem?_append_right (Nat.le_refl _)]; simp [triA]
  · rw [List.append_assoc, List.getElem?_append_right (by omega)]; simp [triB]
  · intro j hj _
    rw [List.append_assoc, List.getElem?_append_left hj]
  · rintro i d e M' hd ⟨T, rfl, hT, hst, hlen, hA, hB, hk⟩
    obtain ⟨hi, rfl⟩ := range_at hd
    have lA : (triA T).length ≤ 7 := by unfold triA; rw [List.length_map, hT.len]; omega
    have lB : (triB T).length ≤ 7 := by unfold triB; rw [List.length_map, hT.len]; omega
    simp only [w_gN, List.set]
    refine sp_gbody hst hA hB (by omega) (by omega) (by omega) (by omega) (by omega) fun v s M2 s0 s1 v1 st l2 hA2 hB2 hk2 => ?_
    refine ⟨T ++ [(-3 + (i : Int), v, s)], ?_, hT.snoc s0 s1 v1, st, by omega, ?_, ?_, ?_⟩
    · have e1 : tot (triA (T ++ [(-3 + (i : Int), v, s)])) = tot (triA T) + v := by unfold triA; rw [List.map_append]; exact tot_app _ _
      have e2 : tot (triB (T ++ [(-3 + (i : Int), v, s)])) = tot (triB T) + s := by unfold triB; rw [List.map_append]; exact tot_app _ _
      have e3 : tot (triA T) - tot (triB T) + v - s = tot (triA T) + v - (tot (triB T) + s) := by omega
      rw [e1, e2, e3]
      rfl
    · rw [hA2]; simp [triA]
    · rw [hB2]; simp [triB]
    · intro j hj hjl
      rw [hk2 j hjl (by omega) (by omega)]
      exact hk j hj hjl
  · rintro e M' ⟨T, rfl, hT, hst, hlen, hA, hB, hk⟩
    have hT : TriOk T 7 := hT
    have lA : (triA T).length ≤ 7 := by unfold triA; rw [List.length_map, hT.len]; omega
    have lB : (triB T).length ≤ 7 := by unfold triB; rw [List.length_map, hT.len]; omega
    simp only [c_q_great_effect_9, c_q_great_effect_8, c_q_great_effect_7, c_q_great_effect_6, w_defn1, w_defn2, w_defn3, w_defn4, w_defn5, w_seq, w_snil, w_asg, w_expr, w_ret, w_retN, w_brk, w_cont, w_sif, ifB_bl, notB_bl, w_gN, w_par, w_par3, w_gsNil, w_gsCons, w_gT2, w_gT3, w_gTi2, w_var0, w_varS, w_c, w_nil, w_cons, w_tup, w_lst, w_new, w_newD, w_op, w_gI, w_add, w_chain, w_not, w_and, w_or, w_if, w_call, w_fn, w_fnN, w_make, w_neg, w_negI, w_t20, w_t21, w_t30, w_t31, w_t32, w_min2, w_max2, w_lenT, w_for, w_iA, wO_ok, w_cmt, List.map, List.replicate, List.set, List.append, wipeE, decide_eq_true_eq, Bool.not_true, Bool.not_false, Bool.false_eq_true, if_true, if_false, Bool.not_eq_true, decide_eq_false_iff_not, Bool.true_eq_false, reduceIte, decide_true, decide_false, Nat.reduceSub, Nat.add_zero]
    refine w_keep (b := triA T) rfl hA (by omega) (by simp) ?_
    simp only [w_defn1, w_defn2, w_defn3, w_defn4, w_defn5, w_seq, w_snil, w_asg, w_expr, w_ret, w_retN, w_brk, w_cont, w_sif, ifB_bl, notB_bl, w_gN, w_par, w_par3, w_gsNil, w_gsCons, w_gT2, w_gT3, w_gTi2, w_var0, w_varS, w_c, w_nil, w_cons, w_tup, w_lst, w_new, w_newD, w_op, w_gI, w_add, w_chain, w_not, w_and, w_or, w_if, w_call, w_fn, w_fnN, w_make, w_neg, w_negI, w_t20, w_t21, w_t30, w_t31, w_t32, w_min2, w_max2, w_lenT, w_for, w_iA, wO_ok, w_cmt, List.map, List.replicate, List.set, List.append, wipeE, decide_eq_true_eq, Bool.not_true, Bool.not_false, Bool.false_eq_true, if_true, if_false, Bool.not_eq_true, decide_eq_false_iff_not, Bool.true_eq_false, reduceIte, decide_true, decide_false, Nat.reduceSub, Nat.add_zero, w_tupL]
    refine w_keep (b := triB T) rfl hB (by omega) (by simp) ?_
    simp only [w_defn1, w_defn2, w_defn3, w_defn4, w_defn5, w_seq, w_snil, w_asg, w_expr, w_ret, w_retN, w_brk, w_cont, w_sif, ifB_bl, notB_bl, w_gN, w_par, w_par3, w_gsNil, w_gsCons, w_gT2, w_gT3, w_gTi2, w_var0, w_varS, w_c, w_nil, w_cons, w_tup, w_lst, w_new, w_newD, w_op, w_gI, w_add, w_chain, w_not, w_and, w_or, w_if, w_call, w_fn, w_fnN, w_make, w_neg, w_negI, w_t20, w_t21, w_t30, w_t31, w_t32, w_min2, w_max2, w_lenT, w_for, w_iA, wO_ok, w_cmt, List.map, List.replicate, List.set, List.append, wipeE, decide_eq_true_eq, Bool.not_true, Bool.not_false, Bool.false_eq_true, if_true, if_false, Bool.not_eq_true, decide_eq_false_iff_not, Bool.true_eq_false, reduceIte, decide_true, decide_false, Nat.reduceSub, Nat.add_zero, w_tupL]
    refine sp_big hst fun v M3 v0 v1 n3 => ?_
    simp only [w_defn1, w_defn2, w_defn3, w_defn4, w_defn5, w_seq, w_snil, w_asg, w_expr, w_ret, w_retN, w_brk, w_cont, w_sif, ifB_bl, notB_bl, w_gN, w_par, w_par3, w_gsNil, w_gsCons, w_gT2, w_gT3, w_gTi2, w_var0, w_varS, w_c, w_nil, w_cons, w_tup, w_lst, w_new, w_newD, w_op, w_gI, w_add, w_chain, w_not, w_and, w_or, w_if, w_call, w_fn, w_fnN, w_make, w_neg, w_negI, w_t20, w_t21, w_t30, w_t31, w_t32, w_min2, w_max2, w_lenT, w_for, w_iA, wO_ok, w_cmt, List.map, List.replicate, List.set, List.append, wipeE, decide_eq_true_eq, Bool.not_true, Bool.not_false, Bool.false_eq_true, if_true, if_false, Bool.not_eq_true, decide_eq_false_iff_not, Bool.true_eq_false, reduceIte, decide_true, decide_false, Nat.reduceSub, Nat.add_zero]
    have ok := tri_ok hT v0 v1
    show wO (makeF "Effect" F_Effect_init [bagD (triE T v).I, .int (triE T v).r, bagD (triE T v).S] M3) _
    rw [wO_eq (e_make ok)]
    refine ⟨pure_eff _, ?_, hP _ _ ok (tri_key hT) ⟨⟨?_, ?_⟩, ?_, ?_⟩⟩
    · rw [List.all_eq_true]
      exact fun x hx => List.all_eq_true.mp n3.1.2 x (List.mem_of_mem_take hx)
    · obtain ⟨⟨x0, x1, hx, hl⟩, _⟩ := n3.1
      exact ⟨x0, x1, hx, by rw [List.getElem?_take, if_pos hln]; exact hl⟩
    · rw [List.all_eq_true]
      exact fun x hx => List.all_eq_true.mp n3.1.2 x (List.mem_of_mem_take hx)
    · rw [List.length_take, n3.2.1, hlen]; omega
    · intro j hj
      rw [List.getElem?_take]
      split
      · rename_i q
        rw [n3.2.2 j hj]
        exact hk j q hj
      · rename_i q
        rw [List.getElem?_eq_none (Nat.le_of_not_lt q)]
theorem sp_great {l : Nat} {M : Mem} {P : D → Mem → Prop} (h : StP l M) (hP : ∀ e M', Em e EB → Nxt l M M' → P (effD e) M') : wO (callF F_q_great_effect [.ref l] M) P := sp_greatK h fun e M' a _ b => hP e M' a b
end
end HL

namespace HL
open PySem DL
variable [Ctr]
/-! ### loops over spans -/
def r1W (d : D) (M : Mem) (P : List D → (Mem → Bool) → Mem → Prop) : Prop := match d with
  | .int j => inB j = true ∧ P (rangeD 0 j.toNat) cYes M
  | _ => False
theorem w_iR1 {f : Ev} {env : DL.Env} {M : Mem} {P : List D → (Mem → Bool) → Mem → Prop} : wI (iR1 f env M) P = wO (f env M) fun d M => r1W d M P := by
  unfold iR1
  rw [wI_bind]
  congr
  funext d M
  cases d with
  | int j =>
    simp only [r1W]
    by_cases h : inB j = true
    · rw [if_pos h]; simp [h, wI]
    · rw [if_neg h]; simp [h, wI]
  | _ => rfl
theorem w_r1I {j : Int} {M : Mem} {P : List D → (Mem → Bool) → Mem → Prop} : r1W (.int j) M P = (inB j = true ∧ P (rangeD 0 j.toNat) cYes M) := rfl
def r2W (d e : D) (M : Mem) (P : List D → (Mem → Bool) → Mem → Prop) : Prop := match d, e with
  | .int i, .int j => (inB i && inB j) = true ∧ P (rangeD i (j - i).toNat) cYes M
  | _, _ => False
theorem inB_of {j : Int} (h : -1000000 ≤ j) (h2 : j ≤ 1000000) : inB j = true := decide_eq_true (p := -(2 ^ 62) ≤ j ∧ j < 2 ^ 62) (by omega)
/-- the turns of the law's outer loop -/
theorem turns (n : Nat) (k : Int) (h : n ≤ 63) (k1 : 1 ≤ k) (hk : k ≤ 63) : inB (max 1 (min (n : Int) k)) = true ∧ ((max 1 (min (n : Int) k)).toNat : Int) ≤ k := ⟨inB_of (by omega) (by omega), by omega⟩
/-! ### the checked tests of bags -/
section
variable {a b : Bag} {M : Mem} {P : D → Mem → Prop}
def unionL (bs : List Bag) : Bag := bs.foldl addB []
theorem add_assoc {c : Bag} (ha : Val a) (hb : Val b) (hc : Val c) : addB (addB a b) c = addB a (addB b c) := bag_ext (val_add (val_add ha b) c) (val_add ha _) fun x => by
  rw [cum_add (val_add ha b) hc, cum_add ha hb, cum_add ha (val_add hb c), cum_add hb hc]; omega
end
end HL

namespace HL
open PySem DL
variable [Ctr]
section
variable {a b : Bag} {M : Mem} {P : D → Mem → Prop} {e : Ef} {B : Int}
/-- nothing is lost -/
theorem rm_ap (h : e.Ok) (hb : Val b) : addB (e.rm b) (e.ap b) = addB b e.I := by
  refine bag_ext (val_add (h.vrm hb) _) (val_add hb _) fun x => ?_
  rw [cum_add (h.vrm hb) (h.vap b), cum_add hb h.vi, h.cum_rm hb, h.cum_ap hb]
  unfold Ef.a Ef.s
  omega
end
end HL

namespace HL
open PySem DL
variable [Ctr]
/-! ### programs -/
inductive Stp where
  | ins (n c : Int)
  | rem (c : Int)
  | rep (c : Int) (p : List Stp)
abbrev Prg := List Stp
mutual
def stpD : Stp → D
  | .ins n c => .tup [.str "insert", .int n, .int c]
  | .rem c => .tup [.str "remove", .int c]
  | .rep c p => .tup [.str "repeat", .int c, .tup (prgDs p)]
def prgDs : Prg → List D
  | [] => []
  | s :: p => stpD s :: prgDs p
end
mutual
def nestS : Stp → Nat
  | .ins _ _ => 0
  | .rem _ => 0
  | .rep _ p => nestP p + 1
def nestP : Prg → Nat
  | [] => 0
  | s :: p => max (nestS s) (nestP p)
end
mutual
def bndS : Stp → Int
  | .ins _ c => c
  | .rem c => c
  | .rep c p => bndP p * c
def bndP : Prg → Int
  | [] => 0
  | s :: p => bndS s + bndP p
end
mutual
def stpE : Stp → Ef
  | .ins n c => ⟨scaleB [(n, 1)] c, 0, scaleB [(n, 1)] c⟩
  | .rem c => ⟨[], c, []⟩
  | .rep c p => powE (prgF idE p) c
def prgF : Ef → Prg → Ef
  | a, [] => a
  | a, s :: p => prgF (joinE a (stpE s)) p
end
def prgE (p : Prg) : Ef := prgF idE p
def prgD (p : Prg) : D := .tup (prgDs p)
mutual
def okS : Stp → Prop
  | .ins n c => Near n ∧ 0 ≤ c ∧ c < BIG
  | .rem c => 0 ≤ c
  | .rep c p => (0 ≤ c ∧ c < BIG) ∧ bndP p < BIG ∧ okP p
def okP : Prg → Prop
  | [] => True
  | s :: p => okS s ∧ okP p
end
section
variable {Q : Stp → Prop} (hi : ∀ n c, Q (.ins n c)) (hr : ∀ c, Q (.rem c)) (hp : ∀ c p, (∀ s ∈ p, Q s) → Q (.rep c p))
include hi hr hp
mutual
theorem stp_ind : ∀ s, Q s
  | .ins n c => hi n c
  | .rem c => hr c
  | .rep c p => hp c p (stp_inds p)
theorem stp_inds : ∀ (p : Prg), ∀ s ∈ p, Q s
  | [], _, h => by cases h
  | s :: p, t, h => by
    rcases List.mem_cons.1 h with e | h
    · rw [e]; exact stp_ind s
    · exact stp_inds p t h
end
end
theorem okP_mem : ∀ {p : Prg}, okP p ↔ ∀ s ∈ p, okS s
  | [] => by unfold okP; simp
  | s :: p => by unfold okP; rw [okP_mem (p := p)]; simp
theorem nest_app : ∀ p q : Prg, nestP (p ++ q) = max (nestP p) (nestP q)
  | [], q => by show nestP q = max (nestP []) _; simp [nestP]
  | s :: p, q => by
    show nestP (s :: (p ++ q)) = max (nestP (s :: p)) _
    rw [nestP, nest_app p q, nestP]; omega
theorem okP_app {p q : Prg} : okP (p ++ q) ↔ okP p ∧ okP q := by
  rw [okP_mem, okP_mem, okP_mem]
  constructor
  · intro h; exact ⟨fun s hs => h s (List.mem_append_left _ hs), fun s hs => h s (List.mem_append_right _ hs)⟩
  · rintro ⟨h1, h2⟩ s hs
    rcases List.mem_append.1 hs with h | h
    · exact h1 s h
    · exact h2 s h
theorem bnd_nn : ∀ s, okS s → 0 ≤ bndS s := by
  refine stp_ind (fun n c h => ?_) (fun c h => ?_) fun c p ih h => ?_
  · unfold okS at h; unfold bndS; omega
  · unfold okS at h; unfold bndS; omega
  · unfold okS at h
    unfold bndS
    have hm := okP_mem.mp h.2.2
    have : ∀ p : Prg, (∀ s ∈ p, 0 ≤ bndS s) → 0 ≤ bndP p := by
      intro p
      induction p with
      | nil => intro _; rw [bndP]; omega
      | cons s p ih => intro h; rw [bndP]; have := h s List.mem_cons_self; have := ih fun t ht => h t (List.mem_cons_of_mem _ ht); omega
    exact Int.mul_nonneg (this p fun s hs => ih s hs (hm s hs)) h.1.1
/-- the effect of a program is one, and not too great -/
theorem em_prgL {p : Prg} (h : ∀ s ∈ p, Em (stpE s) (bndS s)) : Em (prgE p) (bndP p) := by
  suffices ∀ (p : Prg) (a : Ef) (C : Int), (∀ s ∈ p, Em (stpE s) (bndS s)) → Em a C → Em (prgF a p) (C + bndP p) by
    have := this p idE 0 h (em_id (by omega))
    rw [Int.zero_add] at this
    exact this
  intro p
  induction p with
  | nil => intro a C _ h; unfold prgF bndP; simpa using h
  | cons s p ih =>
    intro a C h ha
    have := ih (joinE a (stpE s)) (C + bndS s) (fun t ht => h t (List.mem_cons_of_mem _ ht)) (ha.join (h s List.mem_cons_self))
    unfold prgF bndP
    rw [← Int.add_assoc]
    exact this
theorem em_ins {n c : Int} (h1 : Near n) (h : 0 ≤ c) : Em (stpE (.ins n c)) c := by
  have v : Val (scaleB [(n, 1)] c) := val_scale (val_one n (by decide)) c
  have k : KeyB (scaleB [(n, 1)] c) := key_scale (key_one h1)
  have t : tot (scaleB [(n, 1)] c) = c := by
    rw [tot_scale h]; show c * (1 + 0) = c; omega
  unfold stpE
  refine ⟨⟨v, v, (hasB_iff v).mpr fun k => Int.le_refl _, Int.le_refl 0, ?_⟩, k, k, by show tot _ ≤ c; rw [t]; exact Int.le_refl c, h⟩
  show tot (scaleB [(n, 1)] c) - tot (scaleB [(n, 1)] c) ≤ 0
  omega
theorem em_rem {c : Int} (h : 0 ≤ c) : Em (stpE (.rem c)) c := by
  unfold stpE
  exact ⟨⟨val_nil, val_nil, show hasB [] [] = true by decide, h, by show tot [] - tot [] ≤ c; rw [tot_nil]; omega⟩, key_nil, key_nil, h, Int.le_refl c⟩
theorem em_stp : ∀ s, okS s → Em (stpE s) (bndS s) := by
  refine stp_ind (fun n c h => ?_) (fun c h => ?_) fun c p ih h => ?_
  · unfold okS at h; unfold bndS; exact em_ins h.1 h.2.1
  · unfold okS at h; unfold bndS; exact em_rem h
  · unfold okS at h
    have hm := okP_mem.mp h.2.2
    have := em_prgL fun s hs => ih s hs (hm s hs)
    unfold stpE bndS
    exact this.pow h.1.1
theorem em_prg {p : Prg} (h : okP p) : Em (prgE p) (bndP p) := em_prgL fun s hs => em_stp s (okP_mem.mp h s hs)
end HL

namespace HL
open PySem DL
variable [Ctr]
section
variable {env : DL.Env} {M : Mem} {W : Wi} {P : D → Mem → Prop} {d : D} {xs : List D}
def enW (d : D) (M : Mem) (P : List D → (Mem → Bool) → Mem → Prop) : Prop := wI (match d with
  | .tup xs => .ok (enumD xs) cYes M
  | .itm xs => .ok (enumD xs) cYes M
  | d => match derefL M d with
    | some xs => .ok (enumD xs) (chkL d xs) M
    | none => .st) P
/-! ### a program is valid -/
/-! ### the parts of a program -/
end
end HL

namespace HL
open PySem DL
variable [Ctr]
section
variable [Zero0] {l a : Nat} {M : Mem} {P : D → Mem → Prop}
/-- bounds of one step, by the depth -/
def SB : Nat → Int
  | 0 => 1000000000000000000000000
  | d + 1 => 3 * SB d * 1000000000000000000000000
def GpSpec (F : Fn) (d : Nat) : Prop := ∀ (l : Nat) (M : Mem) (P : D → Mem → Prop), StP l M → (∀ p M', okP p → nestP p ≤ d → bndP p ≤ 3 * SB d → p.length ≤ 3 → Nxt l M M' → P (prgD p) M') → wO (callF F [.ref l, .int d] M) P
end
end HL

namespace HL
open PySem DL
variable [Ctr]
section
variable {env : DL.Env} {M : Mem} {P : D → Mem → Prop} {PL : List D → Mem → Prop} {chk : Mem → Bool} {g : Tg} {ft fe : Ev} {vs : List Nat} {fi : EvI} {d : D} {ds : List D}
/-! ### comprehensions, item by item -/
end
/-! ### compositions -/
section
variable {e f h : Ef} {B : Int} {M : Mem} {P : D → Mem → Prop}
theorem need_join (he : e.Ok) (hf : f.Ok) : (joinE e f).need = max e.need (f.need - (tot e.I - e.r)) := by
  have v := val_add he.vs f.C
  show e.r + f.r - tot (addB e.I f.I) + tot (addB f.S (dropB f.r (addB e.S f.C))) = _
  rw [tot_add he.vi hf.vi, tot_add hf.vs (val_drop v), tot_drop v hf.r0, tot_add he.vs hf.vc, hf.totC]
  unfold Ef.need
  omega
end
end HL

namespace HL
open PySem DL
variable [Ctr]
section
variable {e f : Ef} {B : Int} {M : Mem} {P : D → Mem → Prop} {b : Bag}
theorem powE_add (he : e.Ok) {m n : Int} (hm : 0 ≤ m) (hn : 0 ≤ n) : powE e (m + n) = joinE (powE e m) (powE e n) := by
  have h1 := powE_ok he hm
  have h2 := powE_ok he hn
  by_cases m0 : m = 0
  · subst m0; rw [powE_zero, id_join h2, Int.zero_add]
  by_cases n0 : n = 0
  · subst n0; rw [powE_zero, join_id h1, Int.add_zero]
  refine ef_ext (powE_ok he (by omega)) (joinE_ok h1 h2) ?_ (fun x => ?_) fun x => ?_
  · show _ = (powE e m).r + (powE e n).r
    rw [powE_r, powE_r, powE_r, Int.mul_add]
  · rw [joinE_a h1 h2, powE_a he (by omega), powE_a he hm, powE_a he hn, Int.add_mul]
  · rw [joinE_s h1 h2, powE_s he (by omega), powE_s he (by omega), powE_s he (by omega), powE_a he hn]
    by_cases ha : 0 ≤ e.a x
    · rw [show max (e.a x) 0 = e.a x by omega]
      have e1 : (m + n - 1) * e.a x = (m - 1) * e.a x + n * e.a x := by rw [show m + n - 1 = (m - 1) + n by omega, Int.add_mul]
      have e2 : (n - 1) * e.a x = n * e.a x - e.a x := by rw [Int.sub_mul]; omega
      have e3 : 0 ≤ (m - 1) * e.a x := Int.mul_nonneg (by omega) ha
      omega
    · rw [show max (e.a x) 0 = 0 by omega]
      have e1 : n * e.a x ≤ 0 := Int.mul_nonpos_of_nonneg_of_nonpos hn (by omega)
      simp only [Int.mul_zero]
      omega
end
end HL

namespace HL
open PySem DL
variable [Ctr]
section
variable {e f : Ef} {B n c x : Int} {M : Mem} {P : D → Mem → Prop}
def quadD (I : Bag) (r : Int) (S : Bag) (n : Int) : D := .lst [bagD I, .int r, bagD S, .int n]
end
end HL

namespace HL
open PySem DL
variable [Ctr]
section
variable [Zero0] {l a : Nat} {M : Mem} {P : D → Mem → Prop}
def SR : Nat → Int
  | 0 => 2
  | d + 1 => 3 * SR d * 3
theorem SR_pos : ∀ d, 2 ≤ SR d
  | 0 => by decide
  | d + 1 => by have := SR_pos d; show 2 ≤ 3 * SR d * 3; omega
mutual
/-- a small step, as the draws make it -/
def smlS : Stp → Prop
  | .ins n c => (-2 ≤ n ∧ n ≤ 3) ∧ 0 ≤ c ∧ c ≤ 2
  | .rem c => 0 ≤ c ∧ c ≤ 2
  | .rep c p => (0 ≤ c ∧ c ≤ 3) ∧ p.length ≤ 3 ∧ smlP p
def smlP : Prg → Prop
  | [] => True
  | s :: p => smlS s ∧ smlP p
end
def RpSpecS (F : Fn) (d : Nat) : Prop := ∀ (l : Nat) (M : Mem) (P : D → Mem → Prop), StP l M → (∀ p M', okP p → nestP p ≤ d → bndP p ≤ 3 * SR d → p.length ≤ 3 → smlP p → Nxt l M M' → P (prgD p) M') → wO (callF F [.ref l, .int d] M) P
def RpSpec (F : Fn) (d : Nat) : Prop := ∀ (l : Nat) (M : Mem) (P : D → Mem → Prop), StP l M → (∀ p M', okP p → nestP p ≤ d → bndP p ≤ 3 * SR d → p.length ≤ 3 → Nxt l M M' → P (prgD p) M') → wO (callF F [.ref l, .int d] M) P
end
end HL

namespace HL
open PySem DL
variable [Ctr]
section
variable {e f b : Ef} {B C n m : Int} {M : Mem} {P : D → Mem → Prop}
def optD : Option Int → D
  | some n => .int n
  | none => .non
/-- the quotient that a power would have -/
def quoE (e b : Ef) : Int := if 0 < b.r then e.r / b.r else tot e.I / tot b.I
def expE (e b : Ef) : Option Int := if e = idE then some 0 else if b = idE then none else if powE b (quoE e b) = e then some (quoE e b) else none
end
end HL

namespace HL
open PySem DL
variable [Ctr]
/-! ### roots -/
section
variable {e f : Ef} {B C n m : Int} {M : Mem} {P : D → Mem → Prop} {I S : Bag} {r : Int}
def faultD (I : Bag) (r : Int) (S : Bag) : D := if hasB I S = true then (if tot (subB I S) > r then .str "removals" else .non) else .str "survivors"
/-- a bag, all counts divided -/
def divB (b : Bag) (n : Int) : Bag := b.map fun p => (p.1, p.2 / n)
def dvd (e : Ef) (n : Int) : Bool := decide (e.r % n = 0) && e.I.all fun p => decide (p.2 % n = 0)
def rootE (e : Ef) (n : Int) : Option Ef :=
  if dvd e n = true then
    if hasB e.S (scaleB (dropB (e.r / n) (divB e.I n)) (n - 1)) = true then
      let f : Ef := ⟨divB e.I n, e.r / n, subB e.S (scaleB (dropB (e.r / n) (divB e.I n)) (n - 1))⟩
      if hasB f.I f.S = true ∧ ¬ tot (subB f.I f.S) > f.r then some f else none
    else none
  else none
end
end HL

namespace HL
open PySem DL
variable [Ctr]
section
variable {e f : Ef} {B C n m : Int} {M : Mem} {P : D → Mem → Prop} {I S : Bag} {r : Int}
def rootD : Option Ef → D
  | some f => effD f
  | none => .non
def gModB (n : Int) : D → Option D
  | .tup [_, .int c] => some (.bl (!decide (c % n = 0)))
  | _ => none
def gDiv1 (n : Int) : D → Option D
  | .tup [x, .int c] => some (.tup [x, .int (c / n)])
  | _ => none
end
end HL

namespace HL
open PySem DL
variable [Ctr]
/-! ### all sub-bags of a bag -/
def putN (n : Int) (s : Nat) (b : Bag) : Bag := if 0 < s then b ++ [(n, (s : Int))] else b
def insStep (L : List Bag) (p : Int × Int) : List Bag := (List.range (p.2 + 1).toNat).flatMap fun s => L.map (putN p.1 s)
def inside (X : Bag) : List Bag := X.foldl insStep [[]]
structure InsideOk (X : Bag) (L : List Bag) : Prop where
  val : ∀ b ∈ L, Val b
  keys : ∀ b ∈ L, ∀ p ∈ b, ∃ q ∈ X, q.1 = p.1
  le : ∀ b ∈ L, ∀ k, cnt b k ≤ cnt X k
  nd : L.Nodup
  all : ∀ b, Val b → (∀ k, cnt b k ≤ cnt X k) → b ∈ L
end HL

namespace HL
open PySem DL
variable [Ctr]
section
variable {M : Mem} {P : D → Mem → Prop} {n : Int} {X : Bag}
def gPut (n : Int) (s : Nat) : D → Option D
  | .tup xs => some (.tup (if 0 < s then xs ++ [.tup [.int n, .int s]] else xs))
  | _ => none
end
end HL

namespace HL
open PySem DL
variable [Ctr]
/-! ### roots by trying all survivors -/
section
variable {e f g : Ef} {B n : Int} {M : Mem} {P : D → Mem → Prop} {I S : Bag} {r : Int}
def tryI (e : Ef) (n : Int) : Bag := divB (e.I.filter fun p => decide (n ≤ p.2)) n
def tryS (e : Ef) (n : Int) (S : Bag) : Option Ef := if hasB (tryI e n) S = true ∧ ¬ tot (subB (tryI e n) S) > e.r / n then (if powE ⟨tryI e n, e.r / n, S⟩ n = e then some ⟨tryI e n, e.r / n, S⟩ else none) else none
def found (e : Ef) (n : Int) (L : List Bag) : List Ef := L.filterMap (tryS e n)
end
end HL

namespace HL
open PySem DL
variable [Ctr]
section
variable {e f g : Ef} {B n : Int} {M : Mem} {P : D → Mem → Prop} {I S : Bag} {r : Int}
def gSel (n : Int) : D → Option D
  | .tup [x, .int c] => if n ≤ c then some (.tup [x, .int (c / n)]) else none
  | _ => none
end
end HL

namespace HL
open PySem DL
variable [Ctr]
/-- the number of sub-bags -/
def ways (a : Int) (b : Bag) : Int := b.foldl (fun a p => a * (p.2 + 1)) a
end HL

namespace HL
open PySem DL
variable [Ctr]
end HL

/-! what a piece of code ends in, exceptions too -/
namespace DL
open PySem L2
def xO (r : Out) (P : D → Mem → Prop) (E : Exn → Mem → Prop) : Prop := match r with
  | .ok d M => P d M
  | .ex x M => E x M
  | .st => False
def xL (r : OutL) (P : List D → Mem → Prop) (E : Exn → Mem → Prop) : Prop := match r with
  | .ok d M => P d M
  | .ex x M => E x M
  | .st => False
def xS (r : OutS) (P : Wi) (E : Exn → Env → Mem → Prop) : Prop := match r with
  | .nx e M => P.nx e M
  | .rt d M => P.rt d M
  | .bk e M => P.bk e M
  | .ct e M => P.ct e M
  | .ex x e M => E x e M
  | .st => False
section
variable {r : Out} {fa fb fc ft : Ev} {fl : EvL} {env : Env} {M : Mem} {P : D → Mem → Prop} {E : Exn → Mem → Prop} {ES : Exn → Env → Mem → Prop} {PL : List D → Mem → Prop} {W : Wi} {g g' : Op2} {G : Tg} {s s1 s2 : Sx} {n : OpN} {F : Fn}
theorem xO_ok {d : D} : xO (.ok d M) P E = P d M := rfl
theorem xO_ex {x : Exn} : xO (.ex x M) P E = E x M := rfl
/-- what runs through, whatever is wished for -/
theorem ok_of_w {d : D} {M' : Mem} (h : ∀ P : D → Mem → Prop, wO r P = P d M') : r = .ok d M' := by
  have := h fun d' M1 => d' = d ∧ M1 = M'
  cases r with
  | ok d' M1 =>
    have z : d' = d ∧ M1 = M' := by
      show wO (.ok d' M1) fun d' M1 => d' = d ∧ M1 = M'
      rw [this]; exact ⟨rfl, rfl⟩
    rw [z.1, z.2]
  | ex x M => exact (show False by rw [← show wO (.ex x M) (fun d' M1 => d' = d ∧ M1 = M') = False from rfl, this]; exact ⟨rfl, rfl⟩).elim
  | st => exact (show False by rw [← show wO .st (fun d' M1 => d' = d ∧ M1 = M') = False from rfl, this]; exact ⟨rfl, rfl⟩).elim
theorem x_w {d : D} {M' : Mem} (h : ∀ P : D → Mem → Prop, wO r P = P d M') : xO r P E = P d M' := by rw [ok_of_w h]; rfl
theorem xO_bind {k : D → Mem → Out} : xO (r.bind k) P E = xO r (fun d M => xO (k d M) P E) E := by cases r <;> rfl
theorem xO_bindL {r : OutL} {k : List D → Mem → Out} : xO (r.bind k) P E = xL r (fun d M => xO (k d M) P E) E := by cases r <;> rfl
theorem xL_bind {k : D → Mem → OutL} : xL (r.bindL k) PL E = xO r (fun d M => xL (k d M) PL E) E := by cases r <;> rfl
theorem xS_bind {k : D → Mem → OutS} : xS (r.bindS env k) W ES = xO r (fun d M => xS (k d M) W ES) (fun x M => ES x env M) := by cases r <;> rfl
theorem x_var0 {e0 : D} {env : Env} : xO (eVar 0 (some e0 :: env) M) P E = P e0 M := rfl
theorem x_varS {i : Nat} {o : Option D} {env : Env} : xO (eVar (i + 1) (o :: env) M) P E = xO (eVar i env M) P E := by
  unfold eVar; rw [List.getElem?_cons_succ]
theorem x_c {d : D} : xO (eC d env M) P E = P d M := rfl
theorem x_nil : xL (aNil env M) PL E = PL [] M := rfl
theorem x_cons {h : Ev} : xL (aCons h fl env M) PL E = xO (h env M) (fun d M => xL (fl env M) (fun ds M => PL (d :: ds) M) E) E := by unfold aCons; rw [xL_bind]; congr; funext d M; cases fl env M <;> rfl
theorem x_tup : xO (eTup fl env M) P E = xL (fl env M) (fun ds M => P (.tup ds) M) E := by unfold eTup; rw [xO_bindL]; rfl
theorem x_lst : xO (eLst fl env M) P E = xL (fl env M) (fun ds M => P (.lst ds) M) E := by unfold eLst; rw [xO_bindL]; rfl
theorem x_new : xO (eNew fl env M) P E = xL (fl env M) (fun ds M => P (.ref M.length) (M ++ [.lst ds])) E := by unfold eNew; rw [xO_bindL]; rfl
theorem x_op : xO (eOp g fa fb env M) P E = xO (fa env M) (fun x M => xO (fb env M) (fun y M => xO (g x y M) P E) E) E := by unfold eOp; rw [xO_bind]; congr; funext d M; rw [xO_bind]
theorem x_fn : xO (eFn F fl env M) P E = xL (fl env M) (fun ds M => xO (callF F ds M) P E) E := by unfold eFn; rw [xO_bindL]
theorem x_fnN : xO (eFnN F fl env M) P E = xL (fl env M) (fun ds M => xO (newF F ds M) P E) E := by unfold eFnN; rw [xO_bindL]
theorem x_call : xO (eCall n fl env M) P E = xL (fl env M) (fun ds M => xO (n ds M) P E) E := by unfold eCall; rw [xO_bindL]
theorem x_make {c : Str} : xO (eMake c F fl env M) P E = xL (fl env M) (fun ds M => xO (makeF c F ds M) P E) E := by unfold eMake; rw [xO_bindL]
theorem x_cmt {c : Str} : xO (eCmt c F fl env M) P E = xL (fl env M) (fun ds M => xO (callF F (.glo c :: ds) M) P E) E := by unfold eCmt; rw [xO_bindL]
def notX (x : D) (k : Bool → Prop) : Prop := notB x k
theorem x_not : xO (eNot fa env M) P E = xO (fa env M) (fun x M => notB x fun b => P (.bl b) M) E := by
  unfold eNot; rw [xO_bind]; congr; funext d M; cases d <;> rfl
theorem x_and : xO (eAnd fa fb env M) P E = xO (fa env M) (fun x M => ifB x (xO (fb env M) P E) (P (.bl false) M)) E := by
  unfold eAnd; rw [xO_bind]; congr; funext d M
  cases d with
  | bl b => cases b <;> rfl
  | _ => rfl
theorem x_or : xO (eOr fa fb env M) P E = xO (fa env M) (fun x M => ifB x (P (.bl true) M) (xO (fb env M) P E)) E := by
  unfold eOr; rw [xO_bind]; congr; funext d M
  cases d with
  | bl b => cases b <;> rfl
  | _ => rfl
theorem x_if : xO (eIf ft fa fb env M) P E = xO (ft env M) (fun x M => ifB x (xO (fa env M) P E) (xO (fb env M) P E)) E := by
  unfold eIf; rw [xO_bind]; congr; funext d M
  cases d with
  | bl b => cases b <;> rfl
  | _ => rfl
theorem x_seq : xS (sSeq s1 s2 env M) W ES = xS (s1 env M) { W with nx := fun e M => xS (s2 e M) W ES } ES := by unfold sSeq; cases s1 env M <;> rfl
theorem x_snil : xS (sNil env M) W ES = W.nx env M := rfl
theorem x_asg : xS (sAsg fa G env M) W ES = xO (fa env M) (fun d M => xS (G d env M) W ES) (fun x M => ES x env M) := by unfold sAsg; rw [xS_bind]
theorem x_expr : xS (sExpr fa env M) W ES = xO (fa env M) (fun d M => W.nx env M) (fun x M => ES x env M) := by unfold sExpr; rw [xS_bind]; rfl
theorem x_ret : xS (sRet fa env M) W ES = xO (fa env M) (fun d M => W.rt d M) (fun x M => ES x env M) := by unfold sRet; rw [xS_bind]; rfl
theorem x_retN : xS (sRetN env M) W ES = W.rt .non M := rfl
theorem x_raise {x f : Str} : xS (sRaise x f fa env M) W ES = xO (fa env M) (fun d M => ES ⟨x, [(f, d)]⟩ env M) (fun x M => ES x env M) := by unfold sRaise; rw [xS_bind]; rfl
theorem x_gN {i : Nat} {d : D} : xS (gN i d env M) W ES = W.nx (env.set i (some d)) M := rfl
theorem x_sif : xS (sIf ft s1 s2 env M) W ES = xO (ft env M) (fun x M => ifB x (xS (s1 env M) W ES) (xS (s2 env M) W ES)) (fun x M => ES x env M) := by
  unfold sIf; rw [xS_bind]; congr; funext d M
  cases d with
  | bl b => cases b <;> rfl
  | _ => rfl
theorem w_try {xs : List Str} {cs : List Cla} : wS (sTry xs s cs env M) W = xS (s env M) W (fun x e M' => if x.cls ∈ xs then wS (sCl cs x e M') W else False) := by
  unfold sTry
  cases s env M with
  | ex x e M' =>
    show wS (if x.cls ∈ xs then sCl cs x e M' else .st) W = if x.cls ∈ xs then wS (sCl cs x e M') W else False
    split <;> rfl
  | _ => rfl
theorem w_rd {i : Nat} {f : Str} {x : Exn} {d : D} (h : i < env.length) (hf : x.fs.lookup f = some d) : wO (xRd i f x env M) P = P d M := by
  unfold xRd xFld; rw [if_pos h, hf]; rfl
theorem x_defn {k m : Nat} {c : Sx} {ds : List D} (h : ds.length = m) : xO (defn m k c ds M) P E = xS (c (ds.map some ++ List.replicate (k - m) none) M) { nx := fun _ M => P .non M, rt := P } (fun x _ M => E x M) := by
  unfold defn
  rw [if_pos h]
  cases c (ds.map some ++ List.replicate (k - m) none) M <;> rfl
theorem x_defn1 {k : Nat} {c : Sx} {a : D} : xO (defn 1 k c [a] M) P E = xS (c (some a :: List.replicate (k - 1) none) M) { nx := fun _ M => P .non M, rt := P } (fun x _ M => E x M) := x_defn rfl
theorem x_defn2 {k : Nat} {c : Sx} {a b : D} : xO (defn 2 k c [a, b] M) P E = xS (c (some a :: some b :: List.replicate (k - 2) none) M) { nx := fun _ M => P .non M, rt := P } (fun x _ M => E x M) := x_defn rfl
theorem x_defn3 {k : Nat} {c : Sx} {a b d : D} : xO (defn 3 k c [a, b, d] M) P E = xS (c (some a :: some b :: some d :: List.replicate (k - 3) none) M) { nx := fun _ M => P .non M, rt := P } (fun x _ M => E x M) := x_defn rfl
theorem x_defn4 {k : Nat} {c : Sx} {a b d e : D} : xO (defn 4 k c [a, b, d, e] M) P E = xS (c (some a :: some b :: some d :: some e :: List.replicate (k - 4) none) M) { nx := fun _ M => P .non M, rt := P } (fun x _ M => E x M) := x_defn rfl
/-- a def that raises, of plain data -/
theorem callX_eq {ds : List D} {x : Exn} (hp : puresD ds = true) (hx : puresF x.fs = true) (h : xO (F ds []) (fun _ _ => False) fun y _ => y = x) : callF F ds M = .ex x M := by
  unfold callF
  rw [if_pos hp]
  cases q : F ds [] with
  | ok d M' => rw [q] at h; exact h.elim
  | st => rw [q] at h; exact h.elim
  | ex y M' =>
    rw [q] at h
    have e : y = x := h
    subst e
    unfold retF
    simp only [hx, if_true]
theorem makeX_eq {c : Str} {ds : List D} {x : Exn} (hp : puresD ds = true) (hx : puresF x.fs = true) (h : xO (F (.ref 0 :: ds) [.ins c []]) (fun _ _ => False) fun y _ => y = x) : makeF c F ds M = .ex x M := by
  unfold makeF
  rw [if_pos hp]
  cases q : F (.ref 0 :: ds) [.ins c []] with
  | ok d M' => rw [q] at h; exact h.elim
  | st => rw [q] at h; exact h.elim
  | ex y M' =>
    rw [q] at h
    have e : y = x := h
    subst e
    simp only [hx, if_true]
def endW (o : Option Nat) (W : Wi) : Wi := { nx := fun e M => W.nx (wipO o e) M, rt := W.rt, bk := fun e M => W.bk (wipO o e) M, ct := fun e M => W.ct (wipO o e) M }
theorem w_clHit {c : Cla} {cs : List Cla} {x : Exn} (h : c.cls = x.cls) : wS (sCl (c :: cs) x env M) W = wS (c.f x (wipO c.slot env) M) (endW c.slot W) := by
  unfold sCl
  rw [if_pos h]
  cases c.f x (wipO c.slot env) M <;> cases c.slot <;> rfl
theorem w_clMiss {c : Cla} {cs : List Cla} {x : Exn} (h : ¬ c.cls = x.cls) : wS (sCl (c :: cs) x env M) W = wS (sCl cs x env M) W := by
  unfold sCl
  rw [if_neg h]
  cases cs <;> rfl
theorem w_clRet {n x : Str} {i : Option Nat} {fs : List (Str × D)} {f : Exn → Ev} {cs : List Cla} (h : n = x) : wS (sCl (⟨n, i, fun x => sRet (f x)⟩ :: cs) ⟨x, fs⟩ env M) W = wO (f ⟨x, fs⟩ (wipO i env) M) fun d M => W.rt d M := by
  rw [w_clHit h]
  show wS (sRet (f ⟨x, fs⟩) (wipO i env) M) (endW i W) = _
  rw [w_ret]; rfl
end
end DL

namespace HL
open PySem DL
variable [Ctr]
/-! ### normal programs -/
def insP (b : Bag) : Prg := b.map fun p => .ins p.1 p.2
def remP (r : Int) : Prg := if r > 0 then [.rem r] else []
def nrmP (e : Ef) : Prg := insP e.C ++ (remP e.r ++ insP e.S)
section
variable {e f : Ef} {B C n m : Int} {M : Mem} {P : D → Mem → Prop} {I S : Bag} {r : Int}
theorem ins_one (n : Int) {c : Int} (hc : 0 ≤ c) : (stpE (.ins n c)).Ok ∧ ∀ x, (stpE (.ins n c)).a x = (if n ≤ x then c else 0) ∧ (stpE (.ins n c)).s x = (if n ≤ x then c else 0) := by
  have v : Val (scaleB [(n, 1)] c) := val_scale (val_one n (by decide)) c
  have cu : ∀ x, cum (scaleB [(n, 1)] c) x = if n ≤ x then c else 0 := fun x => by
    rw [cum_scale hc]
    show c * ((if n ≤ x then 1 else 0) + 0) = _
    split <;> simp
  unfold stpE
  refine ⟨⟨v, v, (hasB_iff v).mpr fun k => Int.le_refl _, Int.le_refl 0, by show tot (scaleB [(n, 1)] c) - tot (scaleB [(n, 1)] c) ≤ 0; omega⟩, fun x => ⟨?_, cu x⟩⟩
  show cum (scaleB [(n, 1)] c) x - 0 = _
  rw [cu]; omega
/-! ### the defs -/
def gInsS : D → Option D
  | .tup [x, c] => some (.tup [.str "insert", x, c])
  | _ => none
end
end HL

namespace HL
open PySem DL
variable [Ctr]
/-! ### lists of numbers, and runs step by step -/
/-- how many are at most x -/
def cumN : List Int → Int → Int
  | [], _ => 0
  | n :: r, x => (if n ≤ x then 1 else 0) + cumN r x
theorem cumN_perm {a b : List Int} (h : a.Perm b) (x : Int) : cumN a x = cumN b x := by
  induction h with
  | nil => rfl
  | cons n _ ih => show (if n ≤ x then 1 else 0) + _ = (if n ≤ x then 1 else 0) + _; rw [ih]
  | swap n m l => show (if m ≤ x then 1 else 0) + ((if n ≤ x then 1 else 0) + cumN l x) = (if n ≤ x then 1 else 0) + ((if m ≤ x then 1 else 0) + cumN l x); omega
  | trans _ _ i1 i2 => rw [i1, i2]
theorem cumN_sort (l : List Int) (x : Int) : cumN (sortI l) x = cumN l x := cumN_perm (sortI_perm l) x
theorem cumN_app : ∀ (a b : List Int) (x : Int), cumN (a ++ b) x = cumN a x + cumN b x
  | [], b, x => by show cumN b x = 0 + cumN b x; omega
  | n :: a, b, x => by show (if n ≤ x then 1 else 0) + cumN (a ++ b) x = (if n ≤ x then 1 else 0) + cumN a x + cumN b x; rw [cumN_app a b x]; omega
theorem cumN_nn : ∀ (l : List Int) (x : Int), 0 ≤ cumN l x
  | [], _ => Int.le_refl 0
  | n :: l, x => by have := cumN_nn l x; show 0 ≤ (if n ≤ x then 1 else 0) + cumN l x; split <;> omega
theorem cumN_all : ∀ {l : List Int} {x : Int}, (∀ n ∈ l, n ≤ x) → cumN l x = l.length
  | [], _, _ => rfl
  | n :: l, x, h => by
    have := cumN_all (l := l) (x := x) fun m hm => h m (List.mem_cons_of_mem _ hm)
    show (if n ≤ x then 1 else 0) + cumN l x = ((l.length + 1 : Nat) : Int)
    rw [if_pos (h n List.mem_cons_self), this]; omega
theorem cumN_none : ∀ {l : List Int} {x : Int}, (∀ n ∈ l, x < n) → cumN l x = 0
  | [], _, _ => rfl
  | n :: l, x, h => by
    have := cumN_none (l := l) (x := x) fun m hm => h m (List.mem_cons_of_mem _ hm)
    show (if n ≤ x then 1 else 0) + cumN l x = 0
    rw [if_neg (by have := h n List.mem_cons_self; omega), this]; rfl
/-- the bag of a list -/
def bagN (l : List Int) : Bag := (srtU l).map fun n => (n, (l.count n : Int))
theorem val_bagN (l : List Int) : Val (bagN l) := by
  refine ⟨List.pairwise_map.mpr ((srtU_pw l).imp fun h => h), fun p hp => ?_⟩
  obtain ⟨n, hn, rfl⟩ := List.mem_map.mp hp
  have := List.count_pos_iff.mpr ((srtU_mem n l).mp hn)
  show 1 ≤ ((l.count n : Nat) : Int)
  omega
theorem cum_map_zero (x : Int) : ∀ s : List Int, cum (s.map fun n => (n, ((([] : List Int).count n : Nat) : Int))) x = 0
  | [] => rfl
  | n :: s => by
    show (if n ≤ x then (((([] : List Int).count n : Nat)) : Int) else 0) + cum (s.map fun n => (n, ((([] : List Int).count n : Nat) : Int))) x = 0
    rw [cum_map_zero x s]; simp
theorem cum_map_count : ∀ {s : List Int} (l : List Int) (x : Int), s.Nodup → (∀ n ∈ l, n ∈ s) → cum (s.map fun n => (n, (l.count n : Int))) x = cumN l x
  | s, [], x, _, _ => cum_map_zero x s
  | s, m :: l, x, nd, h => by
    have ih := cum_map_count (s := s) l x nd fun n hn => h n (List.mem_cons_of_mem _ hn)
    show _ = (if m ≤ x then 1 else 0) + cumN l x
    rw [← ih]
    have hm := h m List.mem_cons_self
    clear ih h
    have key : ∀ t : List Int, t.Nodup → cum (t.map fun n => (n, (((m :: l).count n : Nat) : Int))) x = (if m ∈ t ∧ m ≤ x then 1 else 0) + cum (t.map fun n => (n, ((l.count n : Nat) : Int))) x := by
      intro t
      induction t with
      | nil => intro _; simp [cum]
      | cons n t it =>
        intro hn
        (obtain ⟨h1, h2⟩ := List.nodup_cons.mp hn)
        have i2 := it h2
        show (if n ≤ x then (((m :: l).count n : Nat) : Int) else 0) + cum (t.map fun n => (n, (((m :: l).count n : Nat) : Int))) x = _ + ((if n ≤ x then ((l.count n : Nat) : Int) else 0) + cum (t.map fun n => (n, ((l.count n : Nat) : Int))) x)
        rw [i2, List.count_cons]
        by_cases e : m = n
        · subst e
          have : ¬ (m ∈ t ∧ m ≤ x) := fun z => h1 z.1
          rw [if_neg this]
          by_cases q : m ≤ x
          · simp [q]; omega
          · simp [q]
        · have e2 : (m == n) = false := by simpa using e
          simp only [e2, Bool.false_eq_true, if_false, Nat.add_zero]
          have e3 : (m ∈ n :: t ∧ m ≤ x) ↔ (m ∈ t ∧ m ≤ x) := by
            rw [List.mem_cons]
            constructor
            · rintro ⟨z | z, q⟩
              · exact absurd z e
              · exact ⟨z, q⟩
            · rintro ⟨z, q⟩; exact ⟨.inr z, q⟩
          simp only [e3]
          split <;> split <;> omega
    rw [key s nd]
    by_cases q : m ≤ x
    · rw [if_pos ⟨hm, q⟩, if_pos q]
    · rw [if_neg (fun z => q z.2), if_neg q]
theorem cum_bagN (l : List Int) (x : Int) : cum (bagN l) x = cumN l x := cum_map_count l x (pw_nodup (srtU_pw l)) fun n hn => (srtU_mem n l).mpr hn
theorem bagN_eq {l : List Int} {b : Bag} (hb : Val b) (h : ∀ x, cumN l x = cum b x) : bagN l = b := bag_ext (val_bagN l) hb fun x => by rw [cum_bagN, h]
theorem tot_bagN (l : List Int) : tot (bagN l) = l.length := by
  obtain ⟨x, hx⟩ : ∃ x : Int, ∀ n ∈ l, n ≤ x := by
    induction l with
    | nil => exact ⟨0, fun _ h => by cases h⟩
    | cons m l ih =>
      obtain ⟨x, hx⟩ := ih
      refine ⟨max m x, fun n hn => ?_⟩
      rcases List.mem_cons.mp hn with rfl | hn
      · omega
      · have := hx n hn; omega
  have h1 := cum_bagN l x
  rw [cumN_all hx] at h1
  rw [← h1]
  have : ∀ b : Bag, (∀ p ∈ b, p.1 ≤ x) → cum b x = tot b := by
    intro b
    induction b with
    | nil => intro _; rfl
    | cons p b ih =>
      intro h
      show (if p.1 ≤ x then p.2 else 0) + cum b x = p.2 + tot b
      rw [if_pos (h p List.mem_cons_self), ih fun q hq => h q (List.mem_cons_of_mem _ hq)]
  exact (this _ fun p hp => by
    obtain ⟨n, hn, rfl⟩ := List.mem_map.mp hp
    exact hx n ((srtU_mem n l).mp hn)).symm
/-! ### runs -/
/-- an elementary step: a number inserted, or a removal -/
abbrev Est := Option Int
def estP : Est → Stp
  | some n => .ins n 1
  | none => .rem 1
def estsP (t : List Est) : Prg := t.map estP
/-- the run on a sorted list: what is left, what was removed; none: it fails -/
def runN : List Int → List Est → Option (List Int × List Int)
  | l, [] => some (l, [])
  | l, some n :: t => runN (sortI (l ++ [n])) t
  | [], none :: _ => none
  | a :: l, none :: t => (runN l t).map fun z => (z.1, a :: z.2)
/-- the place at which it fails -/
def failN : List Int → List Est → Nat → Option Nat
  | _, [], _ => none
  | l, some n :: t, i => failN (sortI (l ++ [n])) t (i + 1)
  | [], none :: _, i => some i
  | _ :: l, none :: t, i => failN l t (i + 1)
def effN : List Est → Ef
  | [] => idE
  | s :: t => joinE (stpE (estP s)) (effN t)
theorem est_ok (s : Est) : (stpE (estP s)).Ok := by
  cases s with
  | none => 
    show (stpE (.rem 1)).Ok
    unfold stpE
    exact ⟨val_nil, val_nil, by decide, by decide, by decide⟩
  | some n => exact (ins_one n (by decide)).1
theorem est_rem (x : Int) : (stpE (estP none)).a x = -1 ∧ (stpE (estP none)).s x = 0 := by
  show (stpE (.rem 1)).a x = -1 ∧ (stpE (.rem 1)).s x = 0
  unfold stpE
  exact ⟨rfl, rfl⟩
theorem est_ins (n x : Int) : (stpE (estP (some n))).a x = (if n ≤ x then 1 else 0) ∧ (stpE (estP (some n))).s x = (if n ≤ x then 1 else 0) := (ins_one n (by decide)).2 x
theorem effN_ok : ∀ t : List Est, (effN t).Ok
  | [] => idE_ok
  | s :: t => joinE_ok (est_ok s) (effN_ok t)
theorem sort_tail {a : Int} {l : List Int} (h : (a :: l).Pairwise (· ≤ ·)) (x : Int) : cumN l x = max (cumN (a :: l) x - 1) 0 := by
  have hp := List.pairwise_cons.mp h
  have nn := cumN_nn l x
  show cumN l x = max ((if a ≤ x then 1 else 0) + cumN l x - 1) 0
  by_cases q : a ≤ x
  · rw [if_pos q]; omega
  · rw [if_neg q, cumN_none fun n hn => by have := hp.1 n hn; omega]; rfl
/-- what a run leaves -/
theorem run_cum : ∀ {t : List Est} {l : List Int} {z : List Int × List Int}, l.Pairwise (· ≤ ·) → runN l t = some z → z.1.Pairwise (· ≤ ·) ∧ ∀ x, cumN z.1 x = max (cumN l x + (effN t).a x) ((effN t).s x)
  | [], l, z, hl, h => by
    cases h
    refine ⟨hl, fun x => ?_⟩
    have := cumN_nn l x
    show cumN l x = max (cumN l x + 0) 0
    omega
  | some n :: t, l, z, hl, h => by
    obtain ⟨h1, h2⟩ := run_cum (t := t) (sortI_sorted _) h
    refine ⟨h1, fun x => ?_⟩
    have nn := cumN_nn l x
    have e1 : cumN (l ++ [n]) x = cumN l x + ((if n ≤ x then 1 else 0) + 0) := cumN_app l [n] x
    rw [h2 x, cumN_sort, e1]
    show _ = max (cumN l x + (joinE (stpE (estP (some n))) (effN t)).a x) ((joinE (stpE (estP (some n))) (effN t)).s x)
    rw [joinE_a (est_ok _) (effN_ok t), joinE_s (est_ok _) (effN_ok t), (est_ins n x).1, (est_ins n x).2]
    omega
  | none :: t, [], z, hl, h => by cases h
  | none :: t, a :: l, z, hl, h => by
    unfold runN at h
    cases q : runN l t with
    | none => rw [q] at h; cases h
    | some y =>
      rw [q] at h
      cases h
      obtain ⟨h1, h2⟩ := run_cum (t := t) (List.pairwise_cons.mp hl).2 q
      refine ⟨h1, fun x => ?_⟩
      show cumN y.1 x = max (cumN (a :: l) x + (joinE (stpE (estP none)) (effN t)).a x) ((joinE (stpE (estP none)) (effN t)).s x)
      rw [h2 x, joinE_a (est_ok _) (effN_ok t), joinE_s (est_ok _) (effN_ok t), (est_rem x).1, (est_rem x).2, sort_tail hl x]
      omega
def insN : List Est → List Int
  | [] => []
  | some n :: t => n :: insN t
  | none :: t => insN t
/-- nothing is lost -/
theorem run_taken : ∀ {t : List Est} {l : List Int} {z : List Int × List Int}, runN l t = some z → ∀ x, cumN z.2 x + cumN z.1 x = cumN l x + cumN (insN t) x
  | [], l, z, h, x => by cases h; show 0 + cumN l x = cumN l x + 0; omega
  | some n :: t, l, z, h, x => by
    have h2 := run_taken (t := t) h x
    have e1 : cumN (l ++ [n]) x = cumN l x + ((if n ≤ x then 1 else 0) + 0) := cumN_app l [n] x
    rw [cumN_sort, e1] at h2
    show _ = cumN l x + ((if n ≤ x then 1 else 0) + cumN (insN t) x)
    omega
  | none :: t, [], z, h, x => by cases h
  | none :: t, a :: l, z, h, x => by
    unfold runN at h
    cases q : runN l t with
    | none => rw [q] at h; cases h
    | some y =>
      rw [q] at h
      cases h
      have h2 := run_taken (t := t) q x
      show (if a ≤ x then 1 else 0) + cumN y.2 x + cumN y.1 x = (if a ≤ x then 1 else 0) + cumN l x + cumN (insN t) x
      omega
theorem effN_I : ∀ (t : List Est) (x : Int), cum (effN t).I x = cumN (insN t) x
  | [], x => rfl
  | s :: t, x => by
    have ih := effN_I t x
    show cum (addB (stpE (estP s)).I (effN t).I) x = _
    rw [cum_add (est_ok s).vi (effN_ok t).vi, ih]
    cases s with
    | none => show cum (stpE (.rem 1)).I x + _ = _; unfold stpE; show 0 + cumN (insN t) x = cumN (insN t) x; omega
    | some n =>
      have := (est_ins n x).2
      have e : (stpE (estP (some n))).I = (stpE (estP (some n))).S := by show (stpE (.ins n 1)).I = (stpE (.ins n 1)).S; unfold stpE; rfl
      rw [e]
      show (stpE (estP (some n))).s x + _ = (if n ≤ x then 1 else 0) + cumN (insN t) x
      rw [this]
/-- it fails if and only if the list is shorter than needed -/
theorem run_fails : ∀ {t : List Est} {l : List Int}, l.Pairwise (· ≤ ·) → (runN l t = none ↔ (l.length : Int) < (effN t).need)
  | [], l, _ => by
    constructor
    · intro h; cases h
    · intro h
      have : (effN []).need = 0 := rfl
      rw [this] at h; omega
  | some n :: t, l, hl => by
    have ih := run_fails (t := t) (l := sortI (l ++ [n])) (sortI_sorted _)
    have ln : (sortI (l ++ [n])).length = l.length + 1 := by rw [(sortI_perm _).length_eq]; simp
    rw [ln] at ih
    have o := est_ok (some n)
    have e1 : (stpE (estP (some n))).need = 0 ∧ tot (stpE (estP (some n))).I - (stpE (estP (some n))).r = 1 := by
      show (stpE (.ins n 1)).need = 0 ∧ tot (stpE (.ins n 1)).I - (stpE (.ins n 1)).r = 1
      have q : tot (scaleB [(n, 1)] 1) = 1 := by rw [tot_scale (by decide)]; rfl
      unfold stpE Ef.need
      exact ⟨by show 0 - tot (scaleB [(n, 1)] 1) + tot (scaleB [(n, 1)] 1) = 0; omega, by show tot (scaleB [(n, 1)] 1) - 0 = 1; omega⟩
    have nj := need_join o (effN_ok t)
    rw [e1.1, e1.2] at nj
    show runN (sortI (l ++ [n])) t = none ↔ (l.length : Int) < (joinE (stpE (estP (some n))) (effN t)).need
    rw [ih, nj]
    have := (effN_ok t).need0
    constructor <;> intro h <;> omega
  | none :: t, [], hl => by
    have o := est_ok none
    have nj := need_join o (effN_ok t)
    have e1 : (stpE (estP none)).need = 1 ∧ tot (stpE (estP none)).I - (stpE (estP none)).r = -1 := by
      show (stpE (.rem 1)).need = 1 ∧ tot (stpE (.rem 1)).I - (stpE (.rem 1)).r = -1
      unfold stpE; exact ⟨rfl, rfl⟩
    rw [e1.1, e1.2] at nj
    have := (effN_ok t).need0
    constructor
    · intro _
      show ((0 : Nat) : Int) < (joinE (stpE (estP none)) (effN t)).need
      rw [nj]; omega
    · intro _; rfl
  | none :: t, a :: l, hl => by
    have ih := run_fails (t := t) (List.pairwise_cons.mp hl).2
    have o := est_ok none
    have nj := need_join o (effN_ok t)
    have e1 : (stpE (estP none)).need = 1 ∧ tot (stpE (estP none)).I - (stpE (estP none)).r = -1 := by
      show (stpE (.rem 1)).need = 1 ∧ tot (stpE (.rem 1)).I - (stpE (.rem 1)).r = -1
      unfold stpE; exact ⟨rfl, rfl⟩
    rw [e1.1, e1.2] at nj
    have n0 := (effN_ok t).need0
    have e2 : runN (a :: l) (none :: t) = none ↔ runN l t = none := by
      show ((runN l t).map fun z => (z.1, a :: z.2)) = none ↔ _
      cases runN l t <;> simp
    rw [e2, ih]
    show _ ↔ ((l.length + 1 : Nat) : Int) < (joinE (stpE (estP none)) (effN t)).need
    rw [nj]
    constructor <;> intro h <;> omega
/-! ### programs, expanded -/
mutual
def elS : Stp → List Est
  | .ins n c => List.replicate c.toNat (some n)
  | .rem c => List.replicate c.toNat none
  | .rep c p => (List.replicate c.toNat (elP p)).flatten
def elP : Prg → List Est
  | [] => []
  | s :: p => elS s ++ elP p
end
theorem effN_app : ∀ a b : List Est, effN (a ++ b) = joinE (effN a) (effN b)
  | [], b => (id_join (effN_ok b)).symm
  | s :: a, b => by
    show joinE (stpE (estP s)) (effN (a ++ b)) = joinE (joinE (stpE (estP s)) (effN a)) (effN b)
    rw [effN_app a b, join_assoc (est_ok s) (effN_ok a) (effN_ok b)]
theorem effN_rep (t : List Est) : ∀ k : Nat, effN ((List.replicate k t).flatten) = powE (effN t) k
  | 0 => (powE_zero _).symm
  | k + 1 => by
    rw [List.replicate_succ, List.flatten_cons, effN_app, effN_rep t k]
    have h1 := powE_add (effN_ok t) (m := 1) (n := (k : Int)) (by decide) (by omega)
    rw [powE_one (effN_ok t)] at h1
    rw [← h1]
    congr 1
    omega
theorem flat_one (s : Est) : ∀ k : Nat, (List.replicate k [s]).flatten = List.replicate k s
  | 0 => rfl
  | k + 1 => by rw [List.replicate_succ, List.flatten_cons, flat_one s k]; rfl
theorem effN_reps (s : Est) (k : Nat) : effN (List.replicate k s) = powE (stpE (estP s)) k := by
  rw [← flat_one, effN_rep]
  show powE (joinE (stpE (estP s)) idE) _ = _
  rw [join_id (est_ok s)]
theorem pow_ins (n : Int) {c : Int} (hc : 0 ≤ c) : powE (stpE (.ins n 1)) c = stpE (.ins n c) := by
  have o := (ins_one n (c := 1) (by decide)).1
  have l := (ins_one n (c := 1) (by decide)).2
  obtain ⟨o2, l2⟩ := ins_one n hc
  by_cases q : c = 0
  · subst q
    rw [powE_zero]
    unfold stpE; rfl
  · refine ef_ext (powE_ok o hc) o2 ?_ (fun x => ?_) fun x => ?_
    · rw [powE_r]; unfold stpE; show 0 * c = 0; omega
    · rw [powE_a o hc, (l x).1, (l2 x).1]; split <;> simp
    · rw [powE_s o (by omega), (l x).1, (l x).2, (l2 x).2]
      split
      · rw [show max (1 : Int) 0 = 1 by decide, Int.mul_one]; omega
      · rw [show max (0 : Int) 0 = 0 by decide, Int.mul_zero]; rfl
theorem pow_rem {c : Int} (hc : 0 ≤ c) : powE (stpE (.rem 1)) c = stpE (.rem c) := by
  have o := est_ok none
  have o : (stpE (.rem 1)).Ok := o
  have l := est_rem
  have o2 : (stpE (.rem c)).Ok := by
    unfold stpE
    exact ⟨val_nil, val_nil, show hasB [] [] = true by decide, hc, by show (0 : Int) - 0 ≤ c; omega⟩
  by_cases q : c = 0
  · subst q
    rw [powE_zero]
    unfold stpE; rfl
  · refine ef_ext (powE_ok o hc) o2 ?_ (fun x => ?_) fun x => ?_
    · rw [powE_r]; unfold stpE; show 1 * c = c; omega
    · rw [powE_a o hc, (show (stpE (.rem 1)).a x = -1 from (l x).1)]; unfold stpE; show c * -1 = 0 - c; omega
    · rw [powE_s o (by omega), (show (stpE (.rem 1)).a x = -1 from (l x).1), (show (stpE (.rem 1)).s x = 0 from (l x).2)]; unfold stpE; show 0 + (c - 1) * max (-1) 0 = 0; rw [show max (-1 : Int) 0 = 0 by decide, Int.mul_zero]; rfl
mutual
theorem el_stp : ∀ s : Stp, okS s → effN (elS s) = stpE s
  | .ins n c, h => by
    unfold okS at h
    unfold elS
    rw [effN_reps, show ((c.toNat : Nat) : Int) = c by omega]
    exact pow_ins n h.2.1
  | .rem c, h => by
    unfold okS at h
    unfold elS
    rw [effN_reps, show ((c.toNat : Nat) : Int) = c by omega]
    exact pow_rem h
  | .rep c p, h => by
    unfold okS at h
    unfold elS
    rw [effN_rep, show ((c.toNat : Nat) : Int) = c by omega]
    have := el_prg p h.2.2 idE idE_ok
    rw [id_join (effN_ok _)] at this
    rw [← this]
    unfold stpE
    rfl
theorem el_prg : ∀ (p : Prg), okP p → ∀ a : Ef, a.Ok → prgF a p = joinE a (effN (elP p))
  | [], _, a, ha => by unfold prgF elP; exact (join_id ha).symm
  | s :: p, h, a, ha => by
    unfold okP at h
    have hs := el_stp s h.1
    have os : (stpE s).Ok := by rw [← hs]; exact effN_ok _
    unfold prgF elP
    rw [el_prg p h.2 (joinE a (stpE s)) (joinE_ok ha os), effN_app, hs, join_assoc ha os (effN_ok _)]
end
theorem el_eff {p : Prg} (h : okP p) : effN (elP p) = prgE p := by
  have := el_prg p h idE idE_ok
  rw [id_join (effN_ok _)] at this
  exact this.symm
end HL

namespace HL
open PySem DL
variable [Ctr]
section
variable {M : Mem} {P : D → Mem → Prop} {xs ys : List D}
theorem w_itT {P : List D → (Mem → Bool) → Mem → Prop} : wI (itD (.tup xs) M) P = P xs cYes M := rfl
end
/-! ### programs, expanded -/
def estD : Est → D
  | some n => .tup [.str "insert", .int n, .int 1]
  | none => .tup [.str "remove", .int 1]
def estsD (t : List Est) : D := .lst (t.map estD)
mutual
/-- small enough to be expanded -/
def fitS : Stp → Prop
  | .ins _ c => 0 ≤ c ∧ c ≤ 1000
  | .rem c => 0 ≤ c ∧ c ≤ 1000
  | .rep c p => 0 ≤ c ∧ c ≤ 1000 ∧ fitP p ∧ (elP p).length ≤ 1000
def fitP : Prg → Prop
  | [] => True
  | s :: p => fitS s ∧ fitP p
end
theorem elP_app : ∀ p q : Prg, elP (p ++ q) = elP p ++ elP q
  | [], q => by simp [elP]
  | s :: p, q => by show elS s ++ elP (p ++ q) = (elS s ++ elP p) ++ elP q; rw [elP_app p q, List.append_assoc]
/-! ### bags of lists -/
def gCnt (ns : List Int) : D → Option D
  | .int n => some (.tup [.int n, .int (ns.count n : Nat)])
  | _ => none
end HL

namespace HL
open PySem DL L2
variable [Ctr]
def intsL (l : List Int) : D := .lst (l.map .int)
section
variable {M : Mem} {P : D → Mem → Prop} {W : Wi}
end
/-- what a run comes to -/
def runD (l : List Int) (t : List Est) : D := match runN l t with
  | some z => .lst [intsL z.1, intsL z.2]
  | none => .lst [.non, .int ((failN l t 0).getD 0 : Nat)]
theorem run_none : ∀ {t : List Est} {l : List Int} {i : Nat}, runN l t = none → ∃ k, failN l t i = some k
  | [], l, i, h => by cases h
  | some n :: t, l, i, h => run_none (t := t) h
  | none :: t, [], i, h => ⟨i, rfl⟩
  | none :: t, a :: l, i, h => by
    refine run_none (t := t) (l := l) ?_
    unfold runN at h
    cases q : runN l t with
    | none => rfl
    | some z => rw [q] at h; cases h
/-! ### what survives, by a run on greater numbers -/
def gInsN : D → Option D
  | .tup [.str x, .int n, _] => some (.int n)
  | _ => none
def gLt (h : Int) : D → Option D
  | .int n => if n < h then some (.int n) else none
  | _ => none
theorem maxL_ge : ∀ {l : List Int}, ∀ n ∈ l, n ≤ maxL l
  | [], n, h => by cases h
  | [a], n, h => by obtain rfl := List.mem_singleton.mp h; exact Int.le_refl _
  | a :: b :: l, n, h => by
    show n ≤ max a (maxL (b :: l))
    (rcases List.mem_cons.mp h with rfl | h)
    · omega
    · have := maxL_ge (l := b :: l) n h; omega
end HL

namespace HL
open PySem DL
variable [Ctr] [Zero0]
/-! ### small programs -/
mutual
theorem sml_lenS : ∀ (s : Stp) (d : Nat), smlS s → nestS s ≤ d → ((elS s).length : Int) ≤ SR d
  | .ins n c, d, h, hd => by
    unfold smlS at h
    unfold elS
    have := SR_pos d
    rw [List.length_replicate]; omega
  | .rem c, d, h, hd => by
    unfold smlS at h
    unfold elS
    have := SR_pos d
    rw [List.length_replicate]; omega
  | .rep c p, d, h, hd => by
    unfold smlS at h
    unfold nestS at hd
    obtain ⟨k, rfl⟩ : ∃ k, d = k + 1 := ⟨d - 1, by omega⟩
    have ih := sml_lenP p k h.2.2 (by omega)
    have sp := SR_pos k
    have e1 : ((p.length : Nat) : Int) * SR k ≤ 3 * SR k := Int.mul_le_mul_of_nonneg_right (by omega) (by omega)
    unfold elS
    have hc : c = 0 ∨ c = 1 ∨ c = 2 ∨ c = 3 := by omega
    show _ ≤ 3 * SR k * 3
    rcases hc with rfl | rfl | rfl | rfl <;> simp [List.replicate] <;> omega
theorem sml_lenP : ∀ (p : Prg) (d : Nat), smlP p → nestP p ≤ d → ((elP p).length : Int) ≤ (p.length : Nat) * SR d
  | [], d, h, hd => by unfold elP; simp
  | s :: p, d, h, hd => by
    unfold smlP at h
    unfold nestP at hd
    have h1 := sml_lenS s d h.1 (by omega)
    have h2 := sml_lenP p d h.2 (by omega)
    unfold elP
    rw [List.length_append, List.length_cons, show (((p.length + 1 : Nat) : Int)) = (p.length : Int) + 1 by omega, Int.add_mul]
    omega
end
theorem insN_app : ∀ a b : List Est, insN (a ++ b) = insN a ++ insN b
  | [], b => rfl
  | none :: a, b => insN_app a b
  | some n :: a, b => by show n :: insN (a ++ b) = _; rw [insN_app a b]; rfl
theorem insN_flat (t : List Est) : ∀ k : Nat, ∀ n ∈ insN (List.replicate k t).flatten, n ∈ insN t
  | 0, n, h => by cases h
  | k + 1, n, h => by
    rw [List.replicate_succ, List.flatten_cons, insN_app] at h
    (rcases List.mem_append.mp h with h | h)
    · exact h
    · exact insN_flat t k n h
theorem insN_rep (m : Int) : ∀ k : Nat, ∀ n ∈ insN (List.replicate k (some m)), n = m
  | 0, n, h => by cases h
  | k + 1, n, h => by
    rcases List.mem_cons.mp (show n ∈ m :: insN (List.replicate k (some m)) from h) with h | h
    · exact h
    · exact insN_rep m k n h
theorem insN_no : ∀ k : Nat, insN (List.replicate k none) = []
  | 0 => rfl
  | k + 1 => insN_no k
mutual
theorem sml_insS : ∀ (s : Stp), smlS s → ∀ n ∈ insN (elS s), -2 ≤ n ∧ n ≤ 3
  | .ins m c, h, n, hn => by
    unfold smlS at h
    unfold elS at hn
    have := insN_rep m _ n hn
    omega
  | .rem c, h, n, hn => by
    unfold elS at hn
    rw [insN_no] at hn
    cases hn
  | .rep c p, h, n, hn => by
    unfold smlS at h
    unfold elS at hn
    exact sml_insP p h.2.2 n (insN_flat _ _ n hn)
theorem sml_insP : ∀ (p : Prg), smlP p → ∀ n ∈ insN (elP p), -2 ≤ n ∧ n ≤ 3
  | [], h, n, hn => by unfold elP at hn; cases hn
  | s :: p, h, n, hn => by
    unfold smlP at h
    unfold elP at hn
    rw [insN_app] at hn
    rcases List.mem_append.mp hn with q | q
    · exact sml_insS s h.1 n q
    · exact sml_insP p h.2 n q
end
mutual
theorem sml_fitS : ∀ (s : Stp), smlS s → nestS s ≤ 3 → fitS s
  | .ins n c, h, hd => by
    unfold smlS at h
    unfold fitS; omega
  | .rem c, h, hd => by
    unfold smlS at h
    unfold fitS; omega
  | .rep c p, h, hd => by
    unfold smlS at h
    unfold nestS at hd
    have l := sml_lenP p 2 h.2.2 (by omega)
    have e1 : ((p.length : Nat) : Int) * SR 2 ≤ 3 * SR 2 := Int.mul_le_mul_of_nonneg_right (by omega) (by decide)
    have e2 : SR 2 = 162 := rfl
    unfold fitS
    exact ⟨by omega, by omega, sml_fitP p h.2.2 (by omega), by omega⟩
theorem sml_fitP : ∀ (p : Prg), smlP p → nestP p ≤ 3 → fitP p
  | [], h, hd => by unfold fitP; trivial
  | s :: p, h, hd => by
    unfold smlP at h
    unfold nestP at hd
    unfold fitP
    exact ⟨sml_fitS s h.1 (by omega), sml_fitP p h.2 (by omega)⟩
end
section
variable {e f : Ef} {B C : Int} {M : Mem}
end
end HL

namespace HL
open PySem DL L2
variable [Ctr]
section
variable {e : Ef} {B n : Int} {b : Bag} {M : Mem} {P : D → Mem → Prop} {E : Exn → Mem → Prop} {env : DL.Env}
/-! ### a heap with too few elements -/
theorem x_methE {m : Str} {F : Fn} {fl : EvL} (hm : (m == Str.ofString "own_parts") = false) : xO (eMeth "Effect" m F (eVar 0) fl (some (effD e) :: env) M) P E = xL (fl (some (effD e) :: env) M) (fun ds M2 => xO (callF F (effD e :: ds) M2) P E) E := by
  have hg : getFD m [(Str.ofString "own_parts", partsD e)] = none := by
    unfold getFD
    rw [hm]
    rfl
  have h : eMeth "Effect" m F (eVar 0) fl (some (effD e) :: env) M = (fl (some (effD e) :: env) M).bind fun ds M2 => callF F (effD e :: ds) M2 := by
    show (match insD M (effD e) with
      | some (c', fs) => if c' = Str.ofString "Effect" ∧ getFD m fs = none then (fl (some (effD e) :: env) M).bind fun ds M2 => callF F (effD e :: ds) M2 else .st
      | none => .st) = _
    unfold effD insD
    simp only
    rw [if_pos ⟨trivial, hg⟩]
  rw [h, xO_bindL]
theorem x_lt {i j : Int} : xO (DL.gLt (.int i) (.int j) M) P E = P (.bl (decide (i < j))) M := rfl
def empX : Exn := ⟨"EmptyHeap", [("index", .non)]⟩
theorem e_poolX (h : Em e B) (hb : Val b) (kb : KeyB b) (hn : tot b < e.need) : callF F_Effect_pool [effD e, bagD b] M = .ex empX M := by
  refine callX_eq (pure_cons (pure_eff _) (pure_cons (pb _) rfl)) rfl ?_
  have z := key_len hb kb
  have h1 := e_check_bag (M := []) hb (by omega)
  have h2 := e_total (b := b) (M := []) (by omega)
  have np : ∀ {P : D → Mem → Prop} {E : Exn → Mem → Prop}, xO (eProp "Effect" F_Effect_needed (eVar 0) [some (effD e), some (bagD b)] []) P E = P (.int e.need) [] := fun {P E} => x_w fun P => by simp only [w_defn1, w_defn2, w_defn3, w_defn4, w_defn5, w_seq, w_snil, w_asg, w_expr, w_ret, w_retN, w_brk, w_cont, w_sif, ifB_bl, notB_bl, w_gN, w_par, w_par3, w_gsNil, w_gsCons, w_gT2, w_gT3, w_gTi2, w_var0, w_varS, w_c, w_nil, w_cons, w_tup, w_lst, w_new, w_newD, w_op, w_gI, w_add, w_chain, w_not, w_and, w_or, w_if, w_call, w_fn, w_fnN, w_make, w_neg, w_negI, w_t20, w_t21, w_t30, w_t31, w_t32, w_min2, w_max2, w_lenT, w_for, w_iA, wO_ok, w_cmt, List.map, List.replicate, List.set, List.append, wipeE, decide_eq_true_eq, Bool.not_true, Bool.not_false, Bool.false_eq_true, if_true, if_false, Bool.not_eq_true, decide_eq_false_iff_not, Bool.true_eq_false, reduceIte, decide_true, decide_false, Nat.reduceSub, Nat.add_zero, w_prop, w_propE (e_needed h)]
  simp only [F_Effect_pool, c_Effect_pool, c_Effect_pool_1, c_Effect_pool_2, xO_ok, xO_ex, x_defn1, x_defn2, x_defn3, x_defn4, x_var0, x_varS, x_c, x_nil, x_cons, x_tup, x_lst, x_new, x_op, x_fn, x_fnN, x_call, x_make, x_cmt, x_not, x_and, x_or, x_if, x_seq, x_snil, x_asg, x_expr, x_ret, x_retN, x_raise, x_gN, x_sif, ifB_bl, notB_bl, w_gI, w_add, List.map, List.replicate, List.set, List.append, wipeE, decide_eq_true_eq, Bool.not_true, Bool.not_false, Bool.false_eq_true, if_true, if_false, Bool.not_eq_true, decide_eq_false_iff_not, Bool.true_eq_false, reduceIte, decide_true, decide_false, Nat.reduceSub, Nat.add_zero, h1, h2, np, x_lt, hn]
  try rfl
theorem e_applyX (h : Em e B) (hb : Val b) (kb : KeyB b) (hn : tot b < e.need) : callF F_Effect_apply [effD e, bagD b] M = .ex empX M := by
  refine callX_eq (pure_cons (pure_eff _) (pure_cons (pb _) rfl)) rfl ?_
  have h1 := e_poolX (M := []) h hb kb hn
  have np : ∀ {P : D → Mem → Prop} {E : Exn → Mem → Prop}, xO (eProp "Effect" F_Effect_survivors (eVar 0) [some (effD e), some (bagD b)] []) P E = P (bagD e.S) [] := fun {P E} => x_w fun P => by simp only [w_defn1, w_defn2, w_defn3, w_defn4, w_defn5, w_seq, w_snil, w_asg, w_expr, w_ret, w_retN, w_brk, w_cont, w_sif, ifB_bl, notB_bl, w_gN, w_par, w_par3, w_gsNil, w_gsCons, w_gT2, w_gT3, w_gTi2, w_var0, w_varS, w_c, w_nil, w_cons, w_tup, w_lst, w_new, w_newD, w_op, w_gI, w_add, w_chain, w_not, w_and, w_or, w_if, w_call, w_fn, w_fnN, w_make, w_neg, w_negI, w_t20, w_t21, w_t30, w_t31, w_t32, w_min2, w_max2, w_lenT, w_for, w_iA, wO_ok, w_cmt, List.map, List.replicate, List.set, List.append, wipeE, decide_eq_true_eq, Bool.not_true, Bool.not_false, Bool.false_eq_true, if_true, if_false, Bool.not_eq_true, decide_eq_false_iff_not, Bool.true_eq_false, reduceIte, decide_true, decide_false, Nat.reduceSub, Nat.add_zero, w_prop, w_propE e_survivors]
  simp only [F_Effect_apply, c_Effect_apply, xO_ok, xO_ex, x_defn1, x_defn2, x_defn3, x_defn4, x_var0, x_varS, x_c, x_nil, x_cons, x_tup, x_lst, x_new, x_op, x_fn, x_fnN, x_call, x_make, x_cmt, x_not, x_and, x_or, x_if, x_seq, x_snil, x_asg, x_expr, x_ret, x_retN, x_raise, x_gN, x_sif, ifB_bl, notB_bl, w_gI, w_add, List.map, List.replicate, List.set, List.append, wipeE, decide_eq_true_eq, Bool.not_true, Bool.not_false, Bool.false_eq_true, if_true, if_false, Bool.not_eq_true, decide_eq_false_iff_not, Bool.true_eq_false, reduceIte, decide_true, decide_false, Nat.reduceSub, Nat.add_zero, np, x_methE (m := "pool") (by decide), h1]
/-! ### what a run does is what the effect says -/
theorem run_eff {t : List Est} {l : List Int} {z : List Int × List Int} (hr : runN (sortI l) t = some z) : bagN z.1 = (effN t).ap (bagN l) ∧ bagN z.2 = (effN t).rm (bagN l) ∧ z.1.length + z.2.length = l.length + (insN t).length := by
  have ok := effN_ok t
  obtain ⟨h1, h2⟩ := run_cum (sortI_sorted _) hr
  have h3 := run_taken hr
  have vb := val_bagN l
  have ra := rm_ap ok vb
  have vr : Val ((effN t).rm (bagN l)) := val_take (val_add vb _)
  have ea : ∀ x, cumN z.1 x = cum ((effN t).ap (bagN l)) x := fun x => by
    rw [h2 x, cumN_sort, ok.cum_ap vb, cum_bagN]
  have eb : ∀ x, cumN z.2 x = cum ((effN t).rm (bagN l)) x := fun x => by
    have e1 : cum (addB ((effN t).rm (bagN l)) ((effN t).ap (bagN l))) x = cum (addB (bagN l) (effN t).I) x := by rw [ra]
    rw [cum_add vr (ok.vap _), cum_add vb ok.vi, cum_bagN, effN_I] at e1
    have e2 := h3 x
    rw [cumN_sort] at e2
    rw [← ea x] at e1
    omega
  refine ⟨bagN_eq (ok.vap _) ea, bagN_eq vr eb, ?_⟩
  have key : ∃ x : Int, (∀ n ∈ z.1, n ≤ x) ∧ (∀ n ∈ z.2, n ≤ x) ∧ (∀ n ∈ l, n ≤ x) ∧ ∀ n ∈ insN t, n ≤ x := ⟨max (max (maxL z.1) (maxL z.2)) (max (maxL l) (maxL (insN t))), fun n hn => by have := maxL_ge n hn; omega, fun n hn => by have := maxL_ge n hn; omega, fun n hn => by have := maxL_ge n hn; omega, fun n hn => by have := maxL_ge n hn; omega⟩
  obtain ⟨x, k1, k2, k3, k4⟩ := key
  have := h3 x
  rw [cumN_sort, cumN_all k1, cumN_all k2, cumN_all k3, cumN_all k4] at this
  omega
end
end HL

namespace HL
open PySem DL L2
variable [Ctr]
section
variable {M : Mem} {P : D → Mem → Prop} {x y d : D} {ys : List D} {env : DL.Env}
/-! ### x in a list -/
end
/-! ### what all orders of the steps reach -/
def reachL : Nat → List Int → Nat → List Int → List (List Int)
  | 0, _, _, _ => []
  | n + 1, left, r, c => if left = [] ∧ r = 0 then [c] else ((srtU left).flatMap fun k => reachL n (left.erase k) r (sortI (c ++ [k]))) ++ (if r = 0 then [] else reachL n left (r - 1) (c.drop 1))
end HL

namespace HL
open PySem DL L2
variable [Ctr]
section
variable {M : Mem} {P : D → Mem → Prop} {W : Wi} {d : D} {env : DL.Env} {left : List Int}
/-- a list of ints, plain or of the store -/
def rdI (d : D) (left : List Int) (M : Mem) : Prop := d = intsL left ∨ ∃ l, d = .ref l ∧ M[l]? = some (.lst (left.map .int))
theorem rdI.val (h : rdI d left M) : valD M d = intsL left := by
  rcases h with rfl | ⟨l, rfl, h⟩
  · rfl
  · unfold valD; simp only [h]; rfl
theorem rdI.seq (h : rdI d left M) : seqD M d = some (left.map .int) := by
  rcases h with rfl | ⟨l, rfl, h⟩
  · rfl
  · unfold seqD derefL; simp only [h]
theorem rdI.take {M' : Mem} (h : rdI d left M) (e : M'.take M.length = M) : rdI d left M' := by
  rcases h with rfl | ⟨l, rfl, h⟩
  · exact .inl rfl
  · refine .inr ⟨l, rfl, ?_⟩
    have lt := (List.getElem?_eq_some_iff.mp h).1
    rw [← e, List.getElem?_take, if_pos lt] at h
    exact h
def RcSpec (n : Nat) : Prop := ∀ (left : List Int) (r : Nat) (ri : Int) (c : List Int) (d : D) (M : Mem) (P : D → Mem → Prop), ri = (r : Int) → rdI d left M → M.all pureOb = true → c.length + left.length ≤ 4 → r ≤ 3 → left.length + r < n → P (.lst ((reachL n left r c).map intsL)) M → wO (callF (F_q_reached n) [d, .int ri, intsL c] M) P
/-! ### all parts of a list -/
def inL : List Int → List (List Int) → List (List Int)
  | [], f => f
  | n :: ns, f => inL ns (f ++ f.map fun l => l ++ [n])
def gApp (n : Int) : D → Option D
  | .lst xs => some (.lst (xs ++ [.int n]))
  | _ => none
end
end HL

namespace HL
open PySem DL
/-! ### the size of a heap along a run -/
/-- whether an insertion counts, given a bound -/
def cntd : Option Int → Int → Bool
  | none, _ => true
  | some b, n => decide (n < b)
def failC (nb : Option Int) : Int → List Est → Nat → Option Nat
  | _, [], _ => none
  | z, some n :: t, i => failC nb (if cntd nb n = true then z + 1 else z) t (i + 1)
  | z, none :: t, i => if z ≤ 0 then some i else failC nb (z - 1) t (i + 1)
def chgE (nb : Option Int) : List Est → Int
  | [] => 0
  | some n :: t => (if cntd nb n = true then 1 else 0) + chgE nb t
  | none :: t => chgE nb t - 1
def needE (nb : Option Int) : List Est → Int
  | [] => 0
  | some n :: t => max 0 (needE nb t - (if cntd nb n = true then 1 else 0))
  | none :: t => needE nb t + 1
section
variable {nb : Option Int}
theorem needE_nn : ∀ t : List Est, 0 ≤ needE nb t
  | [] => Int.le_refl 0
  | some n :: t => by show 0 ≤ max 0 _; omega
  | none :: t => by have := needE_nn t; show 0 ≤ needE nb t + 1; omega
theorem need_chg : ∀ t : List Est, 0 ≤ needE nb t + chgE nb t
  | [] => Int.le_refl 0
  | some n :: t => by
    have := need_chg t
    show 0 ≤ max 0 (needE nb t - (if cntd nb n = true then 1 else 0)) + ((if cntd nb n = true then 1 else 0) + chgE nb t)
    omega
  | none :: t => by have := need_chg t; show 0 ≤ needE nb t + 1 + (chgE nb t - 1); omega
theorem needE_app : ∀ a b : List Est, needE nb (a ++ b) = max (needE nb a) (needE nb b - chgE nb a)
  | [], b => by have := needE_nn (nb := nb) b; show needE nb b = max 0 (needE nb b - 0); omega
  | some n :: a, b => by
    have h := needE_app a b
    have h2 := needE_nn (nb := nb) a
    have h3 := needE_nn (nb := nb) b
    have h4 := need_chg (nb := nb) a
    show max 0 (needE nb (a ++ b) - (if cntd nb n = true then 1 else 0)) = max (max 0 (needE nb a - (if cntd nb n = true then 1 else 0))) (needE nb b - ((if cntd nb n = true then 1 else 0) + chgE nb a))
    rw [h]
    split <;> omega
  | none :: a, b => by
    have h := needE_app a b
    show needE nb (a ++ b) + 1 = max (needE nb a + 1) (needE nb b - (chgE nb a - 1))
    rw [h]; omega
theorem failC_none : ∀ (t : List Est) (z : Int) (i : Nat), 0 ≤ z → (failC nb z t i = none ↔ needE nb t ≤ z)
  | [], z, i, h => ⟨fun _ => h, fun _ => rfl⟩
  | some n :: t, z, i, h => by
    have ih := failC_none t (if cntd nb n = true then z + 1 else z) (i + 1) (by split <;> omega)
    have nn := needE_nn (nb := nb) t
    show failC nb (if cntd nb n = true then z + 1 else z) t (i + 1) = none ↔ max 0 (needE nb t - (if cntd nb n = true then 1 else 0)) ≤ z
    rw [ih]
    split <;> omega
  | none :: t, z, i, h => by
    have nn := needE_nn (nb := nb) t
    show (if z ≤ 0 then some i else failC nb (z - 1) t (i + 1)) = none ↔ needE nb t + 1 ≤ z
    by_cases q : z ≤ 0
    · rw [if_pos q]
      constructor
      · intro h; cases h
      · intro h; omega
    · rw [if_neg q, failC_none t (z - 1) (i + 1) (by omega)]
      omega
abbrev repE (k : Nat) (t : List Est) : List Est := (List.replicate k t).flatten
theorem repE_succ (k : Nat) (t : List Est) : repE (k + 1) t = t ++ repE k t := by unfold repE; rw [List.replicate_succ, List.flatten_cons]
end
/-- with all insertions it is the size of the list that counts -/
theorem failN_C : ∀ (t : List Est) (l : List Int) (i : Nat), failN l t i = failC none l.length t i
  | [], _, _ => rfl
  | some n :: t, l, i => by
    have := failN_C t (sortI (l ++ [n])) (i + 1)
    rw [(sortI_perm _).length_eq, List.length_append] at this
    show failN (sortI (l ++ [n])) t (i + 1) = failC none (l.length + 1) t (i + 1)
    rw [this]; rfl
  | none :: t, [], i => rfl
  | none :: t, a :: l, i => by
    show failN l t (i + 1) = if ((l.length + 1 : Nat) : Int) ≤ 0 then some i else failC none (((l.length + 1 : Nat) : Int) - 1) t (i + 1)
    rw [if_neg (show ¬ ((l.length + 1 : Nat) : Int) ≤ 0 by omega), failN_C t l (i + 1), show ((l.length + 1 : Nat) : Int) - 1 = l.length by omega]
end HL

namespace HL
open PySem DL
variable [Ctr]
/-! ### steps counted -/
inductive Wd where
  | any | ins | rem
def wdD : Wd → D
  | .any => .non
  | .ins => .str "insert"
  | .rem => .str "remove"
def wIn : Wd → Bool
  | .rem => false
  | _ => true
def wRe : Wd → Bool
  | .ins => false
  | _ => true
mutual
def cwS (w : Wd) : Stp → Int
  | .ins _ c => if wIn w = true then c else 0
  | .rem c => if wRe w = true then c else 0
  | .rep c p => c * cwP w p
def cwP (w : Wd) : Prg → Int
  | [] => 0
  | s :: p => cwS w s + cwP w p
end
theorem cwP_cons (w : Wd) (s : Stp) (p : Prg) : cwP w (s :: p) = cwS w s + cwP w p := by rw [cwP]
mutual
theorem cwS_any : ∀ s, cwS .any s = bndS s
  | .ins n c => by unfold cwS bndS; rfl
  | .rem c => by unfold cwS bndS; rfl
  | .rep c p => by unfold cwS bndS; rw [cwP_any p, Int.mul_comm]
theorem cwP_any : ∀ p, cwP .any p = bndP p
  | [] => by unfold cwP bndP; rfl
  | s :: p => by unfold cwP bndP; rw [cwS_any s, cwP_any p]
end
theorem bnd_nnP {p : Prg} (h : okP p) : 0 ≤ bndP p := (em_prg h).b0
mutual
theorem cwS_le (w : Wd) : ∀ s, okS s → 0 ≤ cwS w s ∧ cwS w s ≤ bndS s
  | .ins n c, h => by unfold okS at h; unfold cwS bndS; split <;> omega
  | .rem c, h => by unfold okS at h; unfold cwS bndS; split <;> omega
  | .rep c p, h => by
    unfold okS at h
    have := cwP_le w p h.2.2
    unfold cwS bndS
    rw [Int.mul_comm (bndP p) c]
    exact ⟨Int.mul_nonneg h.1.1 this.1, Int.mul_le_mul_of_nonneg_left this.2 h.1.1⟩
theorem cwP_le (w : Wd) : ∀ p, okP p → 0 ≤ cwP w p ∧ cwP w p ≤ bndP p
  | [], h => by unfold cwP bndP; omega
  | s :: p, h => by
    unfold okP at h
    have h1 := cwS_le w s h.1
    have h2 := cwP_le w p h.2
    unfold cwP bndP
    omega
end
section
variable {M : Mem} {P : D → Mem → Prop}
end
/-! ### how many elementary steps -/
mutual
theorem elS_len : ∀ s, okS s → ((elS s).length : Int) = bndS s
  | .ins n c, h => by unfold okS at h; unfold elS bndS; rw [List.length_replicate]; omega
  | .rem c, h => by unfold okS at h; unfold elS bndS; rw [List.length_replicate]; omega
  | .rep c p, h => by
    unfold okS at h
    have := elP_len p h.2.2
    have e : ∀ k : Nat, (((List.replicate k (elP p)).flatten.length : Nat) : Int) = ((elP p).length : Int) * k := by
      intro k
      induction k with
      | zero => simp
      | succ k ih => rw [List.replicate_succ, List.flatten_cons, List.length_append, show ((k + 1 : Nat) : Int) = (k : Int) + 1 by omega, Int.mul_add]; omega
    unfold elS bndS
    rw [e, this, show ((c.toNat : Nat) : Int) = c by omega]
theorem elP_len : ∀ p, okP p → ((elP p).length : Int) = bndP p
  | [], h => by unfold elP bndP; rfl
  | s :: p, h => by
    unfold okP at h
    have h1 := elS_len s h.1
    have h2 := elP_len p h.2
    unfold elP bndP
    rw [List.length_append]; omega
end
/-! ### balance -/
def nbD : Option Int → D
  | none => .non
  | some b => .int b
section
variable {M : Mem} {P : D → Mem → Prop}
def balD (nb : Option Int) (t : List Est) : D := .tup [.int (chgE nb t), .int (needE nb t)]
end
end HL

namespace HL
open PySem DL
variable [Ctr]
/-! ### the pool of the later laws: the numbers, a place, what is left of a number, a mixed number -/
def poolD (ns : List Int) (p d m : Int) : Ob := .lst [intsL ns, .int p, .int d, .int m]
def StQ (l : Nat) (M : Mem) : Prop := (∃ (ns : List Int) (p d m : Int), 0 ≤ p ∧ 0 ≤ d ∧ (0 ≤ m ∧ m < 2147483647) ∧ M[l]? = some (poolD ns p d m)) ∧ M.all pureOb = true
def NxQ (l : Nat) (M M' : Mem) : Prop := StQ l M' ∧ M'.length = M.length ∧ ∀ j, j ≠ l → M'[j]? = M[j]?
theorem NxQ.trans {l : Nat} {M M1 M2 : Mem} (a : NxQ l M M1) (b : NxQ l M1 M2) : NxQ l M M2 := ⟨b.1, b.2.1.trans a.2.1, fun j h => (b.2.2 j h).trans (a.2.2 j h)⟩
theorem NxQ.refl {l : Nat} {M : Mem} (h : StQ l M) : NxQ l M M := ⟨h, rfl, fun _ _ => rfl⟩
section
variable {l : Nat} {M : Mem} {m : Int} {P : D → Mem → Prop} {W : Wi} {ns : List Int} {p d q : Int}
theorem cpos {i m : Int} (h : 0 < m) : cPos i m = true := decide_eq_true h
/-! ### the base of the numbers -/
def BasB (b : Int) : Prop := -10000000000000000000000000 ≤ b ∧ b ≤ 10000000000000000000000000
end
end HL

namespace HL
open PySem DL
variable [Ctr]
/-! ### where a program fails -/
def MID : Int := ((2 ^ 8000 : Nat) : Int)
mutual
/-- what stands in repeats is not too long -/
def midS : Stp → Prop
  | .ins _ _ => True
  | .rem _ => True
  | .rep _ p => bndP p < MID ∧ midP p
def midP : Prg → Prop
  | [] => True
  | s :: p => midS s ∧ midP p
end
theorem midP_mem : ∀ {p : Prg}, midP p ↔ ∀ s ∈ p, midS s
  | [] => by unfold midP; simp
  | s :: p => by unfold midP; rw [midP_mem (p := p)]; simp
def foD : Option Nat → D
  | none => .non
  | some k => .int (k : Nat)
section
variable {M : Mem} {P : D → Mem → Prop}
def FndP (f : Nat) : Prop := ∀ (p : Prg) (nb : Option Int) (z : Int) (M : Mem), okP p → midP p → 0 ≤ z → nestP p ≤ 13 → 2 * nestP p + 2 ≤ f → callF (F_failures_find_failure f) [.int z, prgD p, nbD nb] M = .ok (foD (failC nb z (elP p) 0)) M
def FndS (f : Nat) : Prop := ∀ (s : Stp) (nb : Option Int) (z : Int) (k : Nat) (M : Mem), okS s → midS s → 0 ≤ z → failC nb z (elS s) 0 = some k → nestS s ≤ 13 → 2 * nestS s + 1 ≤ f → callF (F_failures_failure_within f) [.int z, stpD s, nbD nb] M = .ok (.int (k : Nat)) M
end
end HL

namespace HL
open PySem DL
variable [Ctr]
/-! ### the drawn programs of the later laws -/
mutual
def smQS (b w : Int) : Stp → Prop
  | .ins n c => (b ≤ n ∧ n < b + w) ∧ 0 ≤ c ∧ c ≤ 2
  | .rem c => 0 ≤ c ∧ c ≤ 2
  | .rep c p => (0 ≤ c ∧ c ≤ 2) ∧ p.length ≤ 3 ∧ smQP b w p
def smQP (b w : Int) : Prg → Prop
  | [] => True
  | s :: p => smQS b w s ∧ smQP b w p
end
def QR : Nat → Int
  | 0 => 2
  | d + 1 => 3 * QR d * 2
theorem QR_pos : ∀ d, 2 ≤ QR d
  | 0 => by decide
  | d + 1 => by have := QR_pos d; show 2 ≤ 3 * QR d * 2; omega
theorem QR_mono : ∀ {a b : Nat}, a ≤ b → QR a ≤ QR b
  | a, 0, h => by obtain rfl : a = 0 := by omega
                  exact Int.le_refl _
  | a, b + 1, h => by
    by_cases q : a = b + 1
    · rw [q]; exact Int.le_refl _
    · have := QR_mono (a := a) (b := b) (by omega)
      have := QR_pos b
      show QR a ≤ 3 * QR b * 2
      omega
mutual
theorem smQ_bndS {b w : Int} : ∀ (s : Stp) (d : Nat), smQS b w s → nestS s ≤ d → 0 ≤ bndS s ∧ bndS s ≤ QR d
  | .ins n c, d, h, hd => by unfold smQS at h; unfold bndS; have := QR_pos d; omega
  | .rem c, d, h, hd => by unfold smQS at h; unfold bndS; have := QR_pos d; omega
  | .rep c p, d, h, hd => by
    unfold smQS at h
    unfold nestS at hd
    obtain ⟨k, rfl⟩ : ∃ k, d = k + 1 := ⟨d - 1, by omega⟩
    obtain ⟨i0, i1⟩ := smQ_bndP p k h.2.2 (by omega)
    have sp := QR_pos k
    have e1 : ((p.length : Nat) : Int) * QR k ≤ 3 * QR k := Int.mul_le_mul_of_nonneg_right (by omega) (by omega)
    unfold bndS
    refine ⟨Int.mul_nonneg i0 h.1.1, ?_⟩
    show _ ≤ 3 * QR k * 2
    exact Int.mul_le_mul (by omega) h.1.2 h.1.1 (by omega)
theorem smQ_bndP {b w : Int} : ∀ (p : Prg) (d : Nat), smQP b w p → nestP p ≤ d → 0 ≤ bndP p ∧ bndP p ≤ (p.length : Nat) * QR d
  | [], d, h, hd => by unfold bndP; simp
  | s :: p, d, h, hd => by
    unfold smQP at h
    unfold nestP at hd
    have h1 := smQ_bndS s d h.1 (by omega)
    have h2 := smQ_bndP p d h.2 (by omega)
    unfold bndP
    rw [List.length_cons, show (((p.length + 1 : Nat) : Int)) = (p.length : Int) + 1 by omega, Int.add_mul]
    omega
end
theorem QR_small {d : Nat} (h : d ≤ 4) : QR d ≤ 2592 := by
  have := QR_mono h
  have e : QR 4 = 2592 := rfl
  omega
theorem small_big {x : Int} (h : x ≤ 1000000) : x < BIG := lt_big 300 (by omega) (by decide)
mutual
theorem smQ_okS {b w : Int} (near : ∀ n, b ≤ n → n < b + w → Near n) : ∀ (s : Stp), smQS b w s → nestS s ≤ 4 → okS s
  | .ins n c, h, hd => by unfold smQS at h; unfold okS; exact ⟨near n h.1.1 h.1.2, h.2.1, small_big (by omega)⟩
  | .rem c, h, hd => by unfold smQS at h; unfold okS; exact h.1
  | .rep c p, h, hd => by
    unfold smQS at h
    unfold nestS at hd
    have bp := smQ_bndP p 4 h.2.2 (by omega)
    have sp := QR_small (show 4 ≤ 4 by omega)
    have qp := QR_pos 4
    have e1 : ((p.length : Nat) : Int) * QR 4 ≤ 3 * QR 4 := Int.mul_le_mul_of_nonneg_right (by omega) (by omega)
    unfold okS
    exact ⟨⟨h.1.1, small_big (by omega)⟩, small_big (by omega), smQ_okP near p h.2.2 (by omega)⟩
theorem smQ_okP {b w : Int} (near : ∀ n, b ≤ n → n < b + w → Near n) : ∀ (p : Prg), smQP b w p → nestP p ≤ 4 → okP p
  | [], h, hd => by unfold okP; trivial
  | s :: p, h, hd => by
    unfold smQP at h
    unfold nestP at hd
    unfold okP
    exact ⟨smQ_okS near s h.1 (by omega), smQ_okP near p h.2 (by omega)⟩
end
section
variable {l : Nat} {M : Mem} {P : D → Mem → Prop} {W : Wi} {b w : Int}
def PqSpec (F : Fn) (d : Nat) : Prop := ∀ (l : Nat) (M : Mem) (P : D → Mem → Prop) (b w : Int), StQ l M → 0 < w → w ≤ 1000000 → (∀ p M', smQP b w p → p.length ≤ 3 → nestP p + 1 ≤ d → NxQ l M M' → P (prgD p) M') → wO (callF F [.ref l, .int d, .int b, .int w] M) P
end
end HL

namespace HL
open PySem DL L2
variable [Ctr]
mutual
theorem smQ_fitS {b w : Int} : ∀ (s : Stp), smQS b w s → okS s → nestS s ≤ 3 → fitS s
  | .ins n c, h, ok, hd => by unfold smQS at h; unfold fitS; omega
  | .rem c, h, ok, hd => by unfold smQS at h; unfold fitS; omega
  | .rep c p, h, ok, hd => by
    unfold smQS at h
    unfold okS at ok
    unfold nestS at hd
    have bp := smQ_bndP p 2 h.2.2 (by omega)
    have lp := elP_len p ok.2.2
    have e2 : QR 2 = 72 := rfl
    have e1 : ((p.length : Nat) : Int) * QR 2 ≤ 3 * QR 2 := Int.mul_le_mul_of_nonneg_right (by omega) (by decide)
    unfold fitS
    exact ⟨h.1.1, by omega, smQ_fitP p h.2.2 ok.2.2 (by omega), by omega⟩
theorem smQ_fitP {b w : Int} : ∀ (p : Prg), smQP b w p → okP p → nestP p ≤ 3 → fitP p
  | [], h, ok, hd => by unfold fitP; trivial
  | s :: p, h, ok, hd => by
    unfold smQP at h
    unfold okP at ok
    unfold nestP at hd
    unfold fitP
    exact ⟨smQ_fitS s h.1 ok.1 (by omega), smQ_fitP p h.2 ok.2 (by omega)⟩
end
/-! ### runs with the place of the failure -/
/-- what a run removes before it fails -/
def goneN : List Int → List Est → List Int
  | _, [] => []
  | l, some n :: t => goneN (sortI (l ++ [n])) t
  | [], none :: _ => []
  | a :: l, none :: t => a :: goneN l t
theorem run_fail_iff : ∀ {t : List Est} {l : List Int} {i : Nat}, runN l t = none ↔ (failN l t i).isSome = true
  | [], l, i => by constructor <;> intro h <;> cases h
  | some n :: t, l, i => run_fail_iff (t := t) (l := sortI (l ++ [n])) (i := i + 1)
  | none :: t, [], i => by constructor <;> intro h <;> rfl
  | none :: t, a :: l, i => by
    have := run_fail_iff (t := t) (l := l) (i := i + 1)
    show ((runN l t).map fun z => (z.1, a :: z.2)) = none ↔ (failN l t (i + 1)).isSome = true
    rw [← this]
    cases runN l t <;> simp
def endD : Option (List Int × List Int) → D
  | some z => intsL z.1
  | none => .non
def noD : Option Nat → D
  | none => .non
  | some k => .int (k : Nat)
def run3D (l : List Int) (t : List Est) : D := .lst [endD (runN l t), intsL (goneN l t), noD (failN l t 0)]
section
variable {M : Mem} {P : D → Mem → Prop}
theorem backL_ok {n : Nat} {d e : D} {ds es : List D} (h : backE n M d = some e) (hs : backL n M ds = some es) : backL n M (d :: ds) = some (e :: es) := by
  unfold backL
  rw [h, hs]
end
end HL

namespace HL
open PySem DL
/-! ### the texts of data -/
/-- a text of real characters, not longer than n -/
def tOk (x : Str) (n : Nat) : Prop := PyData.strOk x = true ∧ x.length ≤ n
theorem tOk_app {a b : Str} {m n : Nat} (ha : tOk a m) (hb : tOk b n) : tOk (a ++ b) (m + n) := by
  refine ⟨?_, ?_⟩
  · show (a.cps ++ b.cps).all (· < 0x110000) = true
    rw [Array.all_append]
    exact Bool.and_eq_true_iff.mpr ⟨ha.1, hb.1⟩
  · have h1 := ha.2
    have h2 := hb.2
    show (a.cps ++ b.cps).size ≤ m + n
    rw [Array.size_append]
    exact Nat.add_le_add h1 h2
theorem tOk_str {s : String} {n : Nat} (h : s.length ≤ n) : tOk (Str.ofString s) n := by
  rw [Str.ofString_eq_toList]
  refine ⟨?_, ?_⟩
  · show ((s.toList.map Char.toNat).toArray).all (· < 0x110000) = true
    rw [List.all_toArray, List.all_eq_true]
    intro c hc
    obtain ⟨ch, _, rfl⟩ := List.mem_map.mp hc
    have hv := ch.valid
    refine decide_eq_true ?_
    show ch.val.toNat < 0x110000
    rcases hv with h | h
    · exact Nat.lt_trans h (by decide)
    · exact h.2
  · show ((s.toList.map Char.toNat).toArray).size ≤ n
    (rw [List.size_toArray, List.length_map])
    exact h
theorem tOk.mono {x : Str} {m n : Nat} (h : tOk x m) (hn : m ≤ n) : tOk x n := ⟨h.1, Nat.le_trans h.2 hn⟩
/-- texts, and how long they are, each with two signs more -/
def tsOk : List Str → Nat → Prop
  | [], _ => True
  | t :: r, n => ∃ a b, tOk t a ∧ tsOk r b ∧ a + 2 + b ≤ n
theorem tOk_from : ∀ {ts : List Str} {k m n : Nat} {acc : Str}, tOk acc m → tsOk ts n → tOk (textFrom k acc ts) (m + n)
  | [], k, m, n, acc, h, _ => h.mono (Nat.le_add_right _ _)
  | t :: r, k, m, n, acc, h, ⟨a, b, ha, hb, hn⟩ => by
    have h1 : tOk (acc ++ (if k > 0 then ", " else "" : String) ++ t) (m + 2 + a) := tOk_app (tOk_app h (tOk_str (by split <;> decide))) ha
    exact (tOk_from (k := k + 1) h1 hb).mono (by omega)
theorem tOk_join : ∀ {ts : List Str} {n : Nat}, tsOk ts n → tOk (Str.join ", " ts) n
  | [], n, _ => (tOk_str (s := "") (by decide) : tOk _ 0).mono (Nat.zero_le _)
  | [t], n, ⟨a, b, ha, _, hn⟩ => ha.mono (by omega)
  | t :: u :: r, n, ⟨a, b, ha, hb, hn⟩ => (tOk_app (tOk_app ha (tOk_str (s := ", ") (n := 2) (by decide))) (tOk_join (ts := u :: r) hb)).mono (by omega)
mutual
/-- data whose text is all right -/
def rpD : D → Bool
  | .non => true
  | .bl _ => true
  | .int i => decide (i.natAbs.log2 < 1900)
  | .str x => PyData.strOk x && (PyData.strOk (reprText x) && decide ((reprText x).length ≤ 100))
  | .tup xs => rpDs xs
  | .itm xs => rpDs xs
  | .lst xs => rpDs xs
  | .fzl xs => rpDs xs
  | _ => false
def rpDs : List D → Bool
  | [] => true
  | x :: xs => rpD x && rpDs xs
end
mutual
def szD : D → Nat
  | .int _ => 1901
  | .tup xs => szDs xs + 3
  | .itm xs => szDs xs + 3
  | .lst xs => szDs xs + 3
  | .fzl xs => szDs xs + 3
  | _ => 100
def szDs : List D → Nat
  | [] => 0
  | x :: xs => szD x + 2 + szDs xs
end
theorem tOk_tup {ts : List Str} {n : Nat} (h : tsOk ts n) : tOk (tupleText ts) (n + 3) := by
  unfold tupleText
  exact (tOk_app (tOk_app (tOk_str (s := "(") (n := 1) (by decide)) (tOk_join h)) (tOk_str (n := 2) (by split <;> decide))).mono (by omega)
theorem tOk_lst {ts : List Str} {n : Nat} (h : tsOk ts n) : tOk (listText ts) (n + 3) := by
  unfold listText
  exact (tOk_app (tOk_from (tOk_str (s := "[") (n := 1) (by decide)) h) (tOk_str (s := "]") (n := 1) (by decide))).mono (by omega)
mutual
theorem rp_ok : ∀ {d : D}, rpD d = true → okD d = true ∧ ∃ p, toP d = some p ∧ p.showable = true ∧ p.hasDict = false ∧ tOk p.shown (szD d)
  | .non, _ => ⟨rfl, .none, rfl, rfl, rfl, tOk_str (s := "None") (by decide)⟩
  | .bl b, _ => ⟨rfl, .bool b, rfl, rfl, rfl, by
      cases b
      · exact tOk_str (s := "False") (by decide)
      · exact tOk_str (s := "True") (by decide)⟩
  | .int i, h => ⟨rfl, .int i, rfl, by have := of_decide_eq_true (show decide (i.natAbs.log2 < 1900) = true from h); show decide (i.natAbs.log2 < 1920) = true; exact decide_eq_true (by omega), rfl, by
      have := of_decide_eq_true (show decide (i.natAbs.log2 < 1900) = true from h)
      show tOk (Str.ofString (toString i)) 1901
      exact tOk_str (int_text_length_le (k := 1900) (by decide) this)⟩
  | .str x, h => by
    have h : (PyData.strOk x && (PyData.strOk (reprText x) && decide ((reprText x).length ≤ 100))) = true := h
    (simp only [Bool.and_eq_true, decide_eq_true_eq] at h)
    exact ⟨h.1, .str x, rfl, rfl, rfl, h.2.1, h.2.2⟩
  | .tup xs, h => by
    obtain ⟨h0, ps, h1, h2, h3, h4⟩ := rp_oks (xs := xs) h
    exact ⟨h0, .tuple ps, by simp only [toP, h1, Option.map_some], by simpa only [PyData.showable] using h2, by simpa only [PyData.hasDict] using h3, by simp only [PyData.shown]; exact tOk_tup h4⟩
  | .itm xs, h => by
    obtain ⟨h0, ps, h1, h2, h3, h4⟩ := rp_oks (xs := xs) h
    exact ⟨h0, .tuple ps, by simp only [toP, h1, Option.map_some], by simpa only [PyData.showable] using h2, by simpa only [PyData.hasDict] using h3, by simp only [PyData.shown]; exact tOk_tup h4⟩
  | .lst xs, h => by
    obtain ⟨h0, ps, h1, h2, h3, h4⟩ := rp_oks (xs := xs) h
    exact ⟨h0, .list ps, by simp only [toP, h1, Option.map_some], by simpa only [PyData.showable] using h2, by simpa only [PyData.hasDict] using h3, by simp only [PyData.shown]; exact tOk_lst h4⟩
  | .fzl xs, h => by
    obtain ⟨h0, ps, h1, h2, h3, h4⟩ := rp_oks (xs := xs) h
    exact ⟨h0, .list ps, by simp only [toP, h1, Option.map_some], by simpa only [PyData.showable] using h2, by simpa only [PyData.hasDict] using h3, by simp only [PyData.shown]; exact tOk_lst h4⟩
  | .ref _, h => by cases h
  | .glo _, h => by cases h
  | .ty _, h => by cases h
  | .inst _ _, h => by cases h
  | .dcv _, h => by cases h
theorem rp_oks : ∀ {xs : List D}, rpDs xs = true → okDs xs = true ∧ ∃ ps, toPs xs = some ps ∧ PyData.showableAll ps = true ∧ PyData.hasDictAll ps = false ∧ tsOk (PyData.shownAll ps) (szDs xs)
  | [], _ => ⟨rfl, [], rfl, rfl, rfl, trivial⟩
  | x :: xs, h => by
    have h : (rpD x && rpDs xs) = true := h
    rw [Bool.and_eq_true] at h
    obtain ⟨a0, p, a1, a2, a3, a4⟩ := rp_ok h.1
    obtain ⟨b0, ps, b1, b2, b3, b4⟩ := rp_oks h.2
    refine ⟨?_, p :: ps, ?_, ?_, ?_, ?_⟩
    · show (okD x && okDs xs) = true; rw [a0, b0]; rfl
    · simp only [toPs, a1, b1]
    · simp only [PyData.showableAll, a2, b2, Bool.and_self]
    · simp only [PyData.hasDictAll, a3, b3, Bool.or_self]
    · simp only [PyData.shownAll]
      exact ⟨_, _, a4, b4, Nat.le_refl _⟩
end
/-- the text of data -/
def shoD (d : D) : Str := match toP d with
  | some p => p.shown
  | none => Str.empty
section
variable {M : Mem} {P : D → Mem → Prop} {d : D}
theorem shoD_ok (h : rpD d = true) : PyData.strOk (shoD d) = true := by
  obtain ⟨_, p, h1, _, _, h4⟩ := rp_ok h
  unfold shoD
  rw [h1]
  exact h4.1
theorem w_repr (h : rpD d = true) (hz : szD d ≤ 16000000) (hd : dpD d ≤ 64) : wO (nRepr [d] M) P = P (.str (shoD d)) M := by
  obtain ⟨h0, p, h1, h2, h3, h4⟩ := rp_ok h
  obtain ⟨p', e1, _, e3⟩ := toP_ok h0
  rw [h1] at e1
  (obtain rfl := Option.some.inj e1)
  have hv : valD M d = d := by
    cases d with
    | ref l => cases h
    | _ => rfl
  have hl : p.shown.length ≤ sizeLine := Nat.le_trans h4.2 (by rw [sizeLine_eq]; omega)
  have e : nRepr [d] M = .ok (.str p.shown) M := by
    unfold nRepr
    simp only [hv, h1]
    rw [if_pos ⟨h2, h3, by omega, hl⟩]
  rw [e]
  unfold shoD
  rw [h1]
  rfl
end
/-! ### bags and lists of numbers -/
def RPN : Int := ((2 ^ 1800 : Nat) : Int)
end HL

namespace HL
open PySem DL L2
variable [Ctr]
theorem mid_of {x : Int} (h : x ≤ 1000000) : x < MID := by
  have : (1000000 : Int) < MID := by decide +kernel
  omega
mutual
theorem smQ_midS {b w : Int} : ∀ (s : Stp), smQS b w s → nestS s ≤ 4 → midS s
  | .ins n c, h, hd => by unfold midS; trivial
  | .rem c, h, hd => by unfold midS; trivial
  | .rep c p, h, hd => by
    unfold smQS at h
    unfold nestS at hd
    have bp := smQ_bndP p 4 h.2.2 (by omega)
    have sp := QR_small (show 4 ≤ 4 by omega)
    have qp := QR_pos 4
    have e1 : ((p.length : Nat) : Int) * QR 4 ≤ 3 * QR 4 := Int.mul_le_mul_of_nonneg_right (by omega) (by omega)
    unfold midS
    exact ⟨mid_of (by omega), smQ_midP p h.2.2 (by omega)⟩
theorem smQ_midP {b w : Int} : ∀ (p : Prg), smQP b w p → nestP p ≤ 4 → midP p
  | [], h, hd => by unfold midP; trivial
  | s :: p, h, hd => by
    unfold smQP at h
    unfold nestP at hd
    unfold midP
    exact ⟨smQ_midS s h.1 (by omega), smQ_midP p h.2 (by omega)⟩
end
section
variable {M : Mem} {P : D → Mem → Prop}
end
end HL

namespace HL
open PySem DL L2
variable [Ctr]
/-! ### the first part of a program -/
mutual
def fstS : Stp → Int → Prg
  | .ins n _, i => [.ins n i]
  | .rem _, i => [.rem i]
  | .rep _ p, i => .rep (i / bndP p) p :: fstP p (i % bndP p)
def fstP : Prg → Int → Prg
  | [], _ => []
  | s :: p, i => if bndS s ≤ i then s :: fstP p (i - bndS s) else fstS s i
end
mutual
/-- how many steps are written -/
def wlS : Stp → Nat
  | .ins _ _ => 1
  | .rem _ => 1
  | .rep _ p => wlP p + 1
def wlP : Prg → Nat
  | [] => 0
  | s :: p => wlS s + wlP p
end
theorem wl_len : ∀ p : Prg, p.length ≤ wlP p
  | [] => Nat.zero_le _
  | s :: p => by
    have := wl_len p
    have h : 1 ≤ wlS s := by cases s <;> unfold wlS <;> omega
    unfold wlP
    (simp only [List.length_cons]; omega)
theorem repE_zero (t : List Est) : repE 0 t = [] := rfl
theorem take_rep (t : List Est) : ∀ (j k r : Nat), j < k → r ≤ t.length → (repE k t).take (j * t.length + r) = repE j t ++ t.take r
  | 0, k, r, hk, hr => by
    obtain ⟨k, rfl⟩ : ∃ m, k = m + 1 := ⟨k - 1, by omega⟩
    rw [repE_succ, repE_zero, Nat.zero_mul, Nat.zero_add, List.take_append_of_le_length hr]
    rfl
  | j + 1, k, r, hk, hr => by
    obtain ⟨k, rfl⟩ : ∃ m, k = m + 1 := ⟨k - 1, by omega⟩
    rw [repE_succ, repE_succ, show (j + 1) * t.length + r = t.length + (j * t.length + r) by rw [Nat.add_mul]; omega, List.take_append, List.take_of_length_le (by omega), show t.length + (j * t.length + r) - t.length = j * t.length + r by omega, take_rep t j k r (by omega) hr, List.append_assoc]
theorem drop_rep (t : List Est) : ∀ (j k r : Nat), j < k → r ≤ t.length → (repE k t).drop (j * t.length + r) = t.drop r ++ repE (k - j - 1) t
  | 0, k, r, hk, hr => by
    obtain ⟨k, rfl⟩ : ∃ m, k = m + 1 := ⟨k - 1, by omega⟩
    rw [repE_succ, Nat.zero_mul, Nat.zero_add, List.drop_append_of_le_length hr]
    rfl
  | j + 1, k, r, hk, hr => by
    obtain ⟨k, rfl⟩ : ∃ m, k = m + 1 := ⟨k - 1, by omega⟩
    rw [repE_succ, show (j + 1) * t.length + r = t.length + (j * t.length + r) by rw [Nat.add_mul]; omega, List.drop_append, List.drop_of_length_le (by omega), List.nil_append, show t.length + (j * t.length + r) - t.length = j * t.length + r by omega, drop_rep t j k r (by omega) hr]
    congr 2; omega
theorem div_parts {i L c : Int} (hL : 0 ≤ L) (h0 : 0 ≤ i) (h : i < L * c) : 0 < L ∧ 0 ≤ i / L ∧ i / L < c ∧ 0 ≤ i % L ∧ i % L < L ∧ i = L * (i / L) + i % L := by
  have l0 : 0 < L := by
    by_cases e : L = 0
    · rw [e, Int.zero_mul] at h; omega
    · omega
  refine ⟨l0, Int.ediv_nonneg h0 hL, Int.ediv_lt_of_lt_mul l0 (by rw [Int.mul_comm]; exact h), Int.emod_nonneg _ (by omega), Int.emod_lt_of_pos _ l0, (Int.mul_ediv_add_emod i L).symm⟩
theorem elP_one (s : Stp) : elP [s] = elS s := by unfold elP; unfold elP; rw [List.append_nil]
theorem elP_cons (s : Stp) (p : Prg) : elP (s :: p) = elS s ++ elP p := by rw [elP]
theorem elS_rep (c : Int) (p : Prg) : elS (.rep c p) = repE c.toNat (elP p) := by unfold elS; rfl
theorem toNat_parts {i L : Int} {t : List Est} (hl : (t.length : Int) = L) (h1 : 0 ≤ i / L) (h2 : 0 ≤ i % L) (h : i = L * (i / L) + i % L) : i.toNat = (i / L).toNat * t.length + (i % L).toNat := by
  have e : ((i.toNat : Nat) : Int) = (((i / L).toNat * t.length + (i % L).toNat : Nat) : Int) := by
    rw [Int.natCast_add, Int.natCast_mul, Int.toNat_of_nonneg h1, Int.toNat_of_nonneg h2, hl, Int.mul_comm (i / L) L, ← h]
    have := Int.mul_nonneg (show (0 : Int) ≤ t.length by omega) h1
    rw [hl] at this
    omega
  exact_mod_cast e
mutual
theorem el_fstS : ∀ (s : Stp) (i : Int), okS s → 0 ≤ i → i < bndS s → elP (fstS s i) = (elS s).take i.toNat
  | .ins n c, i, h, h0, hi => by
    unfold bndS at hi
    unfold fstS
    rw [elP_one]
    unfold elS
    rw [List.take_replicate, Nat.min_eq_left (by omega)]
  | .rem c, i, h, h0, hi => by
    unfold bndS at hi
    unfold fstS
    rw [elP_one]
    unfold elS
    rw [List.take_replicate, Nat.min_eq_left (by omega)]
  | .rep c p, i, h, h0, hi => by
    unfold okS at h
    unfold bndS at hi
    have lp := elP_len p h.2.2
    obtain ⟨l0, d0, d1, m0, m1, e⟩ := div_parts (bnd_nnP h.2.2) h0 hi
    unfold fstS
    rw [elP_cons, elS_rep, elS_rep, el_fstP p _ h.2.2 m0, toNat_parts lp d0 m0 e, take_rep _ _ _ _ (by omega) (by omega)]
theorem el_fstP : ∀ (p : Prg) (i : Int), okP p → 0 ≤ i → elP (fstP p i) = (elP p).take i.toNat
  | [], i, h, h0 => by unfold fstP elP; simp
  | s :: p, i, h, h0 => by
    unfold okP at h
    have ls := elS_len s h.1
    have bs := bnd_nn s h.1
    unfold fstP
    rw [elP_cons s p]
    split
    · rename_i q
      rw [elP_cons, el_fstP p (i - bndS s) h.2 (by omega), List.take_append, List.take_of_length_le (show (elS s).length ≤ i.toNat by omega), show i.toNat - (elS s).length = (i - bndS s).toNat by omega]
    · rw [el_fstS s i h.1 h0 (by omega), List.take_append_of_le_length (by omega)]
end
/-- what a part keeps of its whole -/
structure Part (p q : Prg) : Prop where
  ok : okP q
  mid : midP q
  nest : nestP q ≤ nestP p
  wl : q.length ≤ wlP p
theorem nest_one (s : Stp) : nestP [s] = nestS s := by rw [nestP, nestP]; omega
theorem okP_one {s : Stp} (h : okS s) : okP [s] := by unfold okP; exact ⟨h, by unfold okP; trivial⟩
theorem midP_one {s : Stp} (h : midS s) : midP [s] := by unfold midP; exact ⟨h, by unfold midP; trivial⟩
theorem wl_one (s : Stp) : wlP [s] = wlS s := by unfold wlP; unfold wlP; omega
theorem midP_app {p q : Prg} : midP (p ++ q) ↔ midP p ∧ midP q := by
  rw [midP_mem, midP_mem, midP_mem]
  exact ⟨fun h => ⟨fun s hs => h s (List.mem_append_left _ hs), fun s hs => h s (List.mem_append_right _ hs)⟩, fun h s hs => (List.mem_append.mp hs).elim (h.1 s) (h.2 s)⟩
mutual
theorem part_fstS : ∀ (s : Stp) (i : Int), okS s → midS s → 0 ≤ i → i < bndS s → Part [s] (fstS s i)
  | .ins n c, i, h, hm, h0, hi => by
    unfold bndS at hi
    unfold okS at h
    unfold fstS
    exact ⟨okP_one (by unfold okS; exact ⟨h.1, h0, by omega⟩), midP_one (by unfold midS; trivial), by rw [nest_one, nest_one]; unfold nestS; omega, by rw [wl_one]; unfold wlS; simp⟩
  | .rem c, i, h, hm, h0, hi => by
    unfold bndS at hi
    unfold okS at h
    unfold fstS
    exact ⟨okP_one (by unfold okS; omega), midP_one (by unfold midS; trivial), by rw [nest_one, nest_one]; unfold nestS; omega, by rw [wl_one]; unfold wlS; simp⟩
  | .rep c p, i, h, hm, h0, hi => by
    unfold okS at h
    unfold midS at hm
    unfold bndS at hi
    obtain ⟨l0, d0, d1, m0, m1, e⟩ := div_parts (bnd_nnP h.2.2) h0 hi
    have ih := part_fstP p (i % bndP p) h.2.2 hm.2 m0
    unfold fstS
    refine ⟨?_, ?_, ?_, ?_⟩
    · unfold okP; exact ⟨by unfold okS; exact ⟨⟨d0, by omega⟩, h.2⟩, ih.ok⟩
    · unfold midP; exact ⟨by unfold midS; exact hm, ih.mid⟩
    · have := ih.nest
      rw [nest_one, show nestP (Stp.rep (i / bndP p) p :: fstP p (i % bndP p)) = max (nestS (.rep (i / bndP p) p)) (nestP (fstP p (i % bndP p))) by rw [nestP]]; unfold nestS; omega
    · have := ih.wl
      rw [wl_one]; unfold wlS; simp only [List.length_cons]; omega
theorem part_fstP : ∀ (p : Prg) (i : Int), okP p → midP p → 0 ≤ i → Part p (fstP p i)
  | [], i, h, hm, h0 => by unfold fstP; exact ⟨h, hm, Nat.le_refl _, Nat.zero_le _⟩
  | s :: p, i, h, hm, h0 => by
    unfold okP at h
    unfold midP at hm
    have bs := bnd_nn s h.1
    unfold fstP
    split
    · have ih := part_fstP p (i - bndS s) h.2 hm.2 (by omega)
      refine ⟨by unfold okP; exact ⟨h.1, ih.ok⟩, by unfold midP; exact ⟨hm.1, ih.mid⟩, ?_, ?_⟩
      · have := ih.nest
        rw [show nestP (s :: p) = max (nestS s) (nestP p) by rw [nestP], show nestP (s :: fstP p (i - bndS s)) = max (nestS s) (nestP (fstP p (i - bndS s))) by rw [nestP]]; omega
      · have := ih.wl
        have h1 : 1 ≤ wlS s := by cases s <;> unfold wlS <;> omega
        rw [show wlP (s :: p) = wlS s + wlP p by rw [wlP]]; simp only [List.length_cons]; omega
    · have ih := part_fstS s i h.1 hm.1 h0 (by omega)
      have a := ih.nest
      have b := ih.wl
      rw [nest_one] at a
      rw [wl_one] at b
      exact ⟨ih.ok, ih.mid, by rw [show nestP (s :: p) = max (nestS s) (nestP p) by rw [nestP]]; omega, by rw [show wlP (s :: p) = wlS s + wlP p by rw [wlP]]; omega⟩
end
end HL

namespace HL
open PySem DL L2
variable [Ctr]
section
variable {M : Mem} {P : D → Mem → Prop} {W : Wi}
def fstG (p : Prg) (i : Int) (k : Nat) : Prop := 0 ≤ i - bndP (p.take k) ∧ fstP p i = p.take k ++ fstP (p.drop k) (i - bndP (p.take k))
end
end HL

namespace HL
open PySem DL L2
variable [Ctr]
/-! ### the last part of a program -/
mutual
def lstS : Stp → Int → Prg
  | .ins n c, i => [.ins n (c - i)]
  | .rem c, i => [.rem (c - i)]
  | .rep c p, i => lstP p (i % bndP p) ++ [.rep (c - i / bndP p - 1) p]
def lstP : Prg → Int → Prg
  | [], _ => []
  | s :: p, i => if i < bndS s then lstS s i ++ p else lstP p (i - bndS s)
end
theorem lstP_in {s : Stp} {p : Prg} {i : Int} (h : i < bndS s) : lstP (s :: p) i = lstS s i ++ p := by rw [lstP, if_pos h]
theorem lstP_on {s : Stp} {p : Prg} {i : Int} (h : ¬ i < bndS s) : lstP (s :: p) i = lstP p (i - bndS s) := by rw [lstP, if_neg h]
mutual
theorem el_lstS : ∀ (s : Stp) (i : Int), okS s → 0 ≤ i → i < bndS s → elP (lstS s i) = (elS s).drop i.toNat
  | .ins n c, i, h, h0, hi => by
    unfold bndS at hi
    unfold lstS
    rw [elP_one]
    unfold elS
    rw [List.drop_replicate, show (c - i).toNat = c.toNat - i.toNat by omega]
  | .rem c, i, h, h0, hi => by
    unfold bndS at hi
    unfold lstS
    rw [elP_one]
    unfold elS
    rw [List.drop_replicate, show (c - i).toNat = c.toNat - i.toNat by omega]
  | .rep c p, i, h, h0, hi => by
    unfold okS at h
    unfold bndS at hi
    have lp := elP_len p h.2.2
    obtain ⟨l0, d0, d1, m0, m1, e⟩ := div_parts (bnd_nnP h.2.2) h0 hi
    unfold lstS
    rw [elP_app, elP_one, elS_rep, elS_rep, el_lstP p _ h.2.2 m0, toNat_parts lp d0 m0 e, drop_rep _ _ _ _ (by omega) (by omega), show (c - i / bndP p - 1).toNat = c.toNat - (i / bndP p).toNat - 1 by omega]
theorem el_lstP : ∀ (p : Prg) (i : Int), okP p → 0 ≤ i → elP (lstP p i) = (elP p).drop i.toNat
  | [], i, h, h0 => by rw [lstP]; unfold elP; simp
  | s :: p, i, h, h0 => by
    unfold okP at h
    have ls := elS_len s h.1
    have bs := bnd_nn s h.1
    by_cases q : i < bndS s
    · rw [lstP_in q, elP_app, el_lstS s i h.1 h0 q, elP_cons s p, List.drop_append_of_le_length (by omega)]
    · rw [lstP_on q, el_lstP p (i - bndS s) h.2 (by omega), elP_cons s p, List.drop_append, List.drop_of_length_le (show (elS s).length ≤ i.toNat by omega), List.nil_append, show i.toNat - (elS s).length = (i - bndS s).toNat by omega]
end
mutual
theorem part_lstS : ∀ (s : Stp) (i : Int), okS s → midS s → 0 ≤ i → i < bndS s → Part [s] (lstS s i)
  | .ins n c, i, h, hm, h0, hi => by
    unfold bndS at hi
    unfold okS at h
    unfold lstS
    exact ⟨okP_one (by unfold okS; exact ⟨h.1, by omega, by omega⟩), midP_one (by unfold midS; trivial), by rw [nest_one, nest_one]; unfold nestS; omega, by rw [wl_one]; unfold wlS; simp⟩
  | .rem c, i, h, hm, h0, hi => by
    unfold bndS at hi
    unfold okS at h
    unfold lstS
    exact ⟨okP_one (by unfold okS; omega), midP_one (by unfold midS; trivial), by rw [nest_one, nest_one]; unfold nestS; omega, by rw [wl_one]; unfold wlS; simp⟩
  | .rep c p, i, h, hm, h0, hi => by
    unfold okS at h
    unfold midS at hm
    unfold bndS at hi
    obtain ⟨l0, d0, d1, m0, m1, e⟩ := div_parts (bnd_nnP h.2.2) h0 hi
    have ih := part_lstP p (i % bndP p) h.2.2 hm.2 m0
    have ok2 : okS (.rep (c - i / bndP p - 1) p) := by unfold okS; exact ⟨⟨by omega, by omega⟩, h.2⟩
    have mid2 : midS (.rep (c - i / bndP p - 1) p) := by unfold midS; exact hm
    unfold lstS
    refine ⟨okP_app.mpr ⟨ih.ok, okP_one ok2⟩, midP_app.mpr ⟨ih.mid, midP_one mid2⟩, ?_, ?_⟩
    · have := ih.nest
      rw [nest_app, nest_one, nest_one]; unfold nestS; omega
    · have := ih.wl
      rw [wl_one]; unfold wlS; simp only [List.length_append, List.length_singleton]; omega
theorem part_lstP : ∀ (p : Prg) (i : Int), okP p → midP p → 0 ≤ i → Part p (lstP p i)
  | [], i, h, hm, h0 => by rw [lstP]; exact ⟨h, hm, Nat.le_refl _, Nat.zero_le _⟩
  | s :: p, i, h, hm, h0 => by
    have h' := h
    have hm' := hm
    unfold okP at h
    unfold midP at hm
    have nc : nestP (s :: p) = max (nestS s) (nestP p) := by rw [nestP]
    have wc : wlP (s :: p) = wlS s + wlP p := by rw [wlP]
    by_cases q : i < bndS s
    · have ih := part_lstS s i h.1 hm.1 h0 q
      have a := ih.nest
      have b := ih.wl
      have c := wl_len p
      rw [nest_one] at a
      rw [wl_one] at b
      rw [lstP_in q]
      exact ⟨okP_app.mpr ⟨ih.ok, h.2⟩, midP_app.mpr ⟨ih.mid, hm.2⟩, by rw [nest_app, nc]; omega, by rw [List.length_append, wc]; omega⟩
    · have bs := bnd_nn s h.1
      have ih := part_lstP p (i - bndS s) h.2 hm.2 (by omega)
      have a := ih.nest
      have b := ih.wl
      rw [lstP_on q]
      exact ⟨ih.ok, ih.mid, by rw [nc]; omega, by rw [wc]; omega⟩
end
section
variable {M : Mem} {P : D → Mem → Prop} {W : Wi}
end
end HL

namespace HL
open PySem DL
variable [Ctr]
def GW : Nat → Nat
  | 0 => 1
  | d + 1 => 3 * GW d + 1
def GpSpecM (F : Fn) (d : Nat) : Prop := ∀ (l : Nat) (M : Mem) (P : D → Mem → Prop), StP l M → (∀ p M', okP p → nestP p ≤ d → bndP p ≤ 3 * SB d → p.length ≤ 3 → midP p → wlP p ≤ 3 * GW d → Nxt l M M' → P (prgD p) M') → wO (callF F [.ref l, .int d] M) P
section
variable [Zero0] {l a : Nat} {M : Mem} {P : D → Mem → Prop}
end
end HL

namespace HL
open PySem DL L2
variable [Ctr]
/-! ### the place of a removal -/
def cntR : List Est → Nat
  | [] => 0
  | some _ :: t => cntR t
  | none :: t => cntR t + 1
def remIx : List Est → Nat → Nat
  | [], _ => 0
  | some _ :: t, o => remIx t o + 1
  | none :: _, 0 => 0
  | none :: t, o + 1 => remIx t o + 1
theorem cntR_app : ∀ a b : List Est, cntR (a ++ b) = cntR a + cntR b
  | [], b => by show cntR b = 0 + _; omega
  | some n :: a, b => cntR_app a b
  | none :: a, b => by show cntR (a ++ b) + 1 = cntR a + 1 + cntR b; rw [cntR_app a b]; omega
theorem cntR_rep (t : List Est) : ∀ k : Nat, cntR (repE k t) = k * cntR t
  | 0 => by rw [Nat.zero_mul]; rfl
  | k + 1 => by rw [repE_succ, cntR_app, cntR_rep t k, Nat.add_mul]; omega
theorem cntR_ins (n : Int) : ∀ k : Nat, cntR (List.replicate k (some n)) = 0
  | 0 => rfl
  | k + 1 => cntR_ins n k
theorem cntR_rem : ∀ k : Nat, cntR (List.replicate k none) = k
  | 0 => rfl
  | k + 1 => by show cntR (List.replicate k none) + 1 = k + 1; rw [cntR_rem k]
mutual
theorem cntR_S : ∀ s, okS s → ((cntR (elS s) : Nat) : Int) = cwS .rem s
  | .ins n c, h => by unfold elS cwS; rw [cntR_ins]; rfl
  | .rem c, h => by unfold okS at h; unfold elS cwS; rw [cntR_rem, if_pos (by rfl)]; omega
  | .rep c p, h => by
    unfold okS at h
    have := cntR_P p h.2.2
    rw [elS_rep, cntR_rep, Int.natCast_mul, this, show ((c.toNat : Nat) : Int) = c by omega]
    unfold cwS; rfl
theorem cntR_P : ∀ p, okP p → ((cntR (elP p) : Nat) : Int) = cwP .rem p
  | [], h => by unfold elP cwP; rfl
  | s :: p, h => by
    unfold okP at h
    have h1 := cntR_S s h.1
    have h2 := cntR_P p h.2
    rw [elP_cons, cntR_app, cwP_cons]; omega
end
section
variable {M : Mem} {P : D → Mem → Prop} {W : Wi}
end
end HL

namespace HL
open PySem DL L2
variable [Ctr]
section
variable {M : Mem} {P : D → Mem → Prop} {E : Exn → Mem → Prop} {W : Wi} {p q : Prg} {b : Bag} {i n : Int} {k : Nat}
def empK (k : Nat) : Exn := ⟨"EmptyHeap", [("index", .int (k : Nat))]⟩
end
end HL

namespace HL
open PySem DL L2
variable [Ctr]
/-! ### the step at an index -/
section
variable {M : Mem} {P : D → Mem → Prop} {W : Wi} {p : Prg} {b : Bag} {i : Int}
end
end HL

namespace HL
open PySem DL L2
variable [Ctr]
/-! ### the places of the removals -/
def plcN : List Est → Nat → List Int
  | [], _ => []
  | some _ :: t, i => plcN t (i + 1)
  | none :: t, i => (i : Int) :: plcN t (i + 1)
/-! ### numbers of drawn programs and of runs -/
def C0 : Ctr := ⟨0, 0⟩
theorem insA (a b : List Est) : insN (a ++ b) = insN a ++ insN b := @insN_app C0 (@Zero0.mk C0 rfl) a b
theorem insF (t : List Est) (k : Nat) : ∀ n ∈ insN (List.replicate k t).flatten, n ∈ insN t := @insN_flat C0 (@Zero0.mk C0 rfl) t k
theorem insR (m : Int) (k : Nat) : ∀ n ∈ insN (List.replicate k (some m)), n = m := @insN_rep C0 (@Zero0.mk C0 rfl) m k
theorem insZ (k : Nat) : insN (List.replicate k none) = [] := @insN_no C0 (@Zero0.mk C0 rfl) k
mutual
theorem smQ_insS {b w : Int} : ∀ (s : Stp), smQS b w s → ∀ n ∈ insN (elS s), b ≤ n ∧ n < b + w
  | .ins m c, h, n, hn => by
    unfold smQS at h
    unfold elS at hn
    have := insR m _ n hn
    rw [this]; exact h.1
  | .rem c, h, n, hn => by
    unfold elS at hn
    rw [insZ] at hn
    cases hn
  | .rep c p, h, n, hn => by
    unfold smQS at h
    unfold elS at hn
    exact smQ_insP p h.2.2 n (insF _ _ n hn)
theorem smQ_insP {b w : Int} : ∀ (p : Prg), smQP b w p → ∀ n ∈ insN (elP p), b ≤ n ∧ n < b + w
  | [], h, n, hn => by unfold elP at hn; cases hn
  | s :: p, h, n, hn => by
    unfold smQP at h
    unfold elP at hn
    rw [insA] at hn
    rcases List.mem_append.mp hn with q | q
    · exact smQ_insS s h.1 n q
    · exact smQ_insP p h.2 n q
end
mutual
theorem smQ_wlS {b w : Int} : ∀ (s : Stp) (d : Nat), smQS b w s → nestS s ≤ d → wlS s ≤ 4 ^ (d + 1)
  | .ins n c, d, h, hd => by unfold wlS; exact Nat.pow_pos (by decide)
  | .rem c, d, h, hd => by unfold wlS; exact Nat.pow_pos (by decide)
  | .rep c p, d, h, hd => by
    unfold smQS at h
    unfold nestS at hd
    obtain ⟨k, rfl⟩ : ∃ k, d = k + 1 := ⟨d - 1, by omega⟩
    have ih := smQ_wlP p k h.2.2 (by omega)
    have e1 : p.length * 4 ^ (k + 1) ≤ 3 * 4 ^ (k + 1) := Nat.mul_le_mul_right _ h.2.1
    have : 1 ≤ 4 ^ (k + 1) := Nat.pow_pos (by decide)
    unfold wlS
    rw [Nat.pow_succ 4 (k + 1)]; omega
theorem smQ_wlP {b w : Int} : ∀ (p : Prg) (d : Nat), smQP b w p → nestP p ≤ d → wlP p ≤ p.length * 4 ^ (d + 1)
  | [], d, h, hd => by unfold wlP; simp
  | s :: p, d, h, hd => by
    unfold smQP at h
    unfold nestP at hd
    have h1 := smQ_wlS s d h.1 (by omega)
    have h2 := smQ_wlP p d h.2 (by omega)
    unfold wlP
    rw [List.length_cons, Nat.add_mul]; omega
end
/-! ### what the first steps of a program do to a heap -/
structure Did (p : Prg) (i : Int) (hp : List Int) (T : List Est) : Prop where
  el : elP (fstP p i) = T
  ok : ∀ z, runN (sortI hp) T = some z → failC none (tot (bagN hp)) T 0 = none ∧ (prgE (fstP p i)).need ≤ tot (bagN hp) ∧ (prgE (fstP p i)).ap (bagN hp) = bagN z.1
  no : runN (sortI hp) T = none → ∃ k, failN (sortI hp) T 0 = some k ∧ failC none (tot (bagN hp)) T 0 = some k
theorem did {p : Prg} {i : Int} {hp : List Int} (h : okP p) (hm : midP p) (h0 : 0 ≤ i) : Did p i hp ((elP p).take i.toNat) := by
  have pt := part_fstP p i h hm h0
  have el := el_fstP p i h h0
  have ef := el_eff pt.ok
  rw [el] at ef
  have fc := failN_C ((elP p).take i.toNat) (sortI hp) 0
  rw [(sortI_perm hp).length_eq] at fc
  have rf := run_fails (t := (elP p).take i.toNat) (sortI_sorted hp)
  rw [(sortI_perm hp).length_eq, ef] at rf
  rw [← tot_bagN] at fc rf
  refine ⟨el, fun z hz => ?_, fun hz => ?_⟩
  · have nn : ¬ tot (bagN hp) < (prgE (fstP p i)).need := fun q => by rw [rf.mpr q] at hz; cases hz
    obtain ⟨e1, _, _⟩ := run_eff hz
    rw [ef] at e1
    refine ⟨?_, by omega, e1.symm⟩
    rw [← fc]
    cases q : failN (sortI hp) ((elP p).take i.toNat) 0 with
    | none => rfl
    | some k =>
      have := (run_fail_iff (t := (elP p).take i.toNat) (l := sortI hp) (i := 0)).mpr (by rw [q]; rfl)
      rw [this] at hz; cases hz
  · obtain ⟨k, hk⟩ := run_none (i := 0) hz
    exact ⟨k, hk, by rw [← fc]; exact hk⟩
/-! ### texts -/
section
variable {M : Mem} {P : D → Mem → Prop}
end
end HL

namespace HL
open PySem DL L2
variable [Ctr]
section
variable {M : Mem} {P : D → Mem → Prop} {E : Exn → Mem → Prop} {p : Prg} {b : Bag} {i : Int} {k : Nat}
end
end HL

namespace HL
open PySem DL L2
variable [Ctr]
/-! ### what is left of a run that never fails: the survivors -/
def presN : List Int → List Est → List Int
  | l, [] => l
  | l, some n :: t => presN (sortI (l ++ [n])) t
  | l, none :: t => presN (l.drop 1) t
section
variable {M : Mem} {P : D → Mem → Prop} {p : Prg} {t : List Est}
def tripD (e : Ef) : D := .tup [bagD e.I, .int e.r, bagD e.S]
/-! ### the bound of a removal -/
def headD : Bag → D
  | [] => .non
  | q :: _ => .int q.1
end
end HL

namespace HL
open PySem DL L2
variable [Ctr]
/-! ### preimages -/
def highB (b : Bag) (y : Int) : Bag := b.filter fun p => decide (y < p.1)
/-- the preimage that is found -/
def preB (e : Ef) (R : Bag) : Option Bag :=
  if hasB R e.S = true then
    match subB R e.S with
    | [] => some (scaleB [(0, 1)] e.need)
    | (y, c) :: K => if hasB ((y, c) :: K) (highB e.C y) = true then some (addB (subB ((y, c) :: K) (highB e.C y)) (scaleB [(y, 1)] (e.r - cum e.C y))) else none
  else none
theorem Ef.Ok.parts {e : Ef} (h : e.Ok) (x : Int) : cum e.I x = cum e.C x + cum e.S x ∧ tot e.I = tot e.C + tot e.S ∧ cum e.C x ≤ tot e.C ∧ tot e.C ≤ e.r ∧ 0 ≤ cum e.C x := by
  have e3 : cum e.C x = cum e.I x - cum e.S x := cum_sub h.vi h.has x
  have e4 : cum e.C x ≤ tot e.C := cum_le_tot x (val_sub h.vi _).nn
  have e5 : tot e.C = tot e.I - tot e.S := tot_sub h.vi h.has
  have e6 := h.rt
  have e7 : 0 ≤ cum e.C x := by
    have : ∀ S : Bag, (∀ p ∈ S, 0 ≤ p.2) → 0 ≤ cum S x := fun S => by
      induction S with
      | nil => intro _; exact Int.le_refl 0
      | cons q S ih =>
        intro h
        have := ih fun r hr => h r (List.mem_cons_of_mem _ hr)
        have := h q List.mem_cons_self
        show 0 ≤ (if q.1 ≤ x then q.2 else 0) + cum S x
        split <;> omega
    exact this _ (val_sub h.vi _).nn
  refine ⟨by omega, by omega, e4, by omega, e7⟩
end HL

namespace HL
open PySem DL L2
variable [Ctr]
/-! ### the preimage that the program finds -/
def gHigh (y : Int) : D → Option D
  | .tup [.int x, .int c] => if y < x then some (.tup [.int x, .int c]) else none
  | _ => none
def optB : Option Bag → D
  | none => .non
  | some b => bagD b
section
variable {M : Mem} {P : D → Mem → Prop} {W : Wi} {e : Ef} {B : Int} {R : Bag}
end
end HL

namespace HL
open PySem DL L2
variable [Ctr]
/-! ### a bag as a list -/
def listB (b : Bag) : List Int := b.flatMap fun p => List.replicate p.2.toNat p.1
theorem listB_cons (p : Int × Int) (b : Bag) : listB (p :: b) = List.replicate p.2.toNat p.1 ++ listB b := rfl
theorem cumN_rep (n x : Int) (k : Nat) : cumN (List.replicate k n) x = if n ≤ x then (k : Int) else 0 := by
  by_cases q : n ≤ x
  · rw [if_pos q, cumN_all fun m hm => by rw [(List.mem_replicate.mp hm).2]; exact q, List.length_replicate]
  · rw [if_neg q, cumN_none fun m hm => by rw [(List.mem_replicate.mp hm).2]; omega]
theorem listB_cum : ∀ {b : Bag}, (∀ p ∈ b, 1 ≤ p.2) → ∀ x, cumN (listB b) x = cum b x
  | [], _, _ => rfl
  | p :: b, h, x => by
    have := listB_cum (b := b) (fun q hq => h q (List.mem_cons_of_mem _ hq)) x
    have := h p List.mem_cons_self
    rw [listB_cons, cumN_app, cumN_rep]
    show _ = (if p.1 ≤ x then p.2 else 0) + cum b x
    split <;> omega
theorem listB_bag {b : Bag} (h : Val b) : bagN (listB b) = b := bagN_eq h (listB_cum h.2)
def tupI (l : List Int) : D := .tup (l.map .int)
/-- all sorted words of a length over numbers -/
def okL (l : List Int) (k : Int) : Bool := match l.getLast? with
  | none => true
  | some m => decide (k ≥ m)
def growN (ks : List Int) (hs : List (List Int)) : List (List Int) := hs.flatMap fun h => (ks.filter (okL h)).map fun k => h ++ [k]
def bagsN (ks : List Int) : Nat → List (List Int)
  | 0 => [[]]
  | n + 1 => growN ks (bagsN ks n)
section
variable {M : Mem} {P : D → Mem → Prop}
def gGrow (h : List Int) : D → Option D
  | .int k => if okL h k = true then some (tupI (h ++ [k])) else none
  | _ => none
end
end HL

namespace HL
open PySem DL L2
variable [Ctr]
/-! ### how many insertions of a number -/
mutual
def cnS (n : Int) : Stp → Int
  | .ins m c => if m = n then c else 0
  | .rem _ => 0
  | .rep c p => c * cnP n p
def cnP (n : Int) : Prg → Int
  | [] => 0
  | s :: p => cnS n s + cnP n p
end
/-- insertions of a number among elementary steps -/
def cnE (n : Int) : List Est → Int
  | [] => 0
  | some m :: t => (if m = n then 1 else 0) + cnE n t
  | none :: t => cnE n t
theorem cnE_app (n : Int) : ∀ a b : List Est, cnE n (a ++ b) = cnE n a + cnE n b
  | [], b => by show cnE n b = 0 + _; omega
  | some m :: a, b => by show _ + cnE n (a ++ b) = _ + cnE n a + cnE n b; rw [cnE_app n a b]; omega
  | none :: a, b => cnE_app n a b
theorem cnE_rep (n : Int) (t : List Est) : ∀ k : Nat, cnE n (repE k t) = k * cnE n t
  | 0 => by unfold repE; simp [cnE]
  | k + 1 => by
    rw [repE_succ, cnE_app, cnE_rep n t k, show ((k + 1 : Nat) : Int) = (k : Int) + 1 by omega, Int.add_mul]; omega
theorem cnE_repl (n : Int) (m : Int) : ∀ k : Nat, cnE n (List.replicate k (some m)) = if m = n then (k : Int) else 0
  | 0 => by simp [cnE]
  | k + 1 => by
    rw [List.replicate_succ]
    show (if m = n then 1 else 0) + cnE n (List.replicate k (some m)) = _
    rw [cnE_repl n m k]
    split <;> omega
theorem cnE_replN (n : Int) : ∀ k : Nat, cnE n (List.replicate k none) = 0
  | 0 => rfl
  | k + 1 => by rw [List.replicate_succ]; exact cnE_replN n k
mutual
theorem cnS_el (n : Int) : ∀ s, okS s → cnS n s = cnE n (elS s)
  | .ins m c, h => by
    unfold okS at h
    unfold elS cnS
    rw [cnE_repl]
    split <;> omega
  | .rem c, h => by
    unfold elS cnS
    rw [cnE_replN]
  | .rep c p, h => by
    unfold okS at h
    have := cnP_el n p h.2.2
    rw [elS_rep, cnE_rep, ← this]
    unfold cnS
    rw [show ((c.toNat : Nat) : Int) = c by omega]
theorem cnP_el (n : Int) : ∀ p, okP p → cnP n p = cnE n (elP p)
  | [], h => by unfold elP cnP; rfl
  | s :: p, h => by
    unfold okP at h
    have h1 := cnS_el n s h.1
    have h2 := cnP_el n p h.2
    rw [elP_cons, cnE_app]
    unfold cnP
    omega
end
mutual
theorem cnS_le (n : Int) : ∀ s, okS s → 0 ≤ cnS n s ∧ cnS n s ≤ bndS s
  | .ins m c, h => by unfold okS at h; unfold cnS bndS; split <;> omega
  | .rem c, h => by unfold okS at h; unfold cnS bndS; omega
  | .rep c p, h => by
    unfold okS at h
    have := cnP_le n p h.2.2
    unfold cnS bndS
    rw [Int.mul_comm (bndP p) c]
    exact ⟨Int.mul_nonneg h.1.1 this.1, Int.mul_le_mul_of_nonneg_left this.2 h.1.1⟩
theorem cnP_le (n : Int) : ∀ p, okP p → 0 ≤ cnP n p ∧ cnP n p ≤ bndP p
  | [], h => by unfold cnP bndP; omega
  | s :: p, h => by
    unfold okP at h
    have h1 := cnS_le n s h.1
    have h2 := cnP_le n p h.2
    unfold cnP bndP
    omega
end
section
variable {M : Mem} {P : D → Mem → Prop} {p : Prg} {b : Bag} {i n : Int}
end
/-! ### the fate of an inserted number -/
end HL

namespace HL
open PySem DL L2
variable [Ctr]
theorem failC_take {nb : Option Int} {t : List Est} {z : Int} (h0 : 0 ≤ z) (h : failC nb z t 0 = none) (i : Nat) : failC nb z (t.take i) 0 = none := by
  have h1 := (failC_none t z 0 h0).mp h
  have h2 := needE_app (nb := nb) (t.take i) (t.drop i)
  rw [List.take_append_drop] at h2
  exact (failC_none (t.take i) z 0 h0).mpr (by omega)
/-- a program that runs on a heap -/
structure Run (p : Prg) (b : Bag) : Prop where
  ok : okP p
  mid : midP p
  nest : nestP p ≤ 7
  wl : wlP p ≤ 1000000
  big : bndP p < BIG
  vb : Val b
  kb : KeyB b
  run : failC none (tot b) (elP p) 0 = none
section
variable {M : Mem} {P : D → Mem → Prop} {p : Prg} {b : Bag} {i : Nat} {n : Int}
/-- the contents after i steps -/
def conB (p : Prg) (b : Bag) (i : Nat) : Bag := (prgE (fstP p i)).ap b
theorem Run.at (R : Run p b) (i : Nat) : ∃ z : List Int × List Int, runN (sortI (listB b)) ((elP p).take i) = some z ∧ (prgE (fstP p i)).need ≤ tot b ∧ conB p b i = bagN z.1 ∧ failC none (tot b) (elP (fstP p i)) 0 = none := by
  have D := did (p := p) (i := (i : Int)) (hp := listB b) R.ok R.mid (by omega)
  have lb := listB_bag R.vb
  rw [Int.toNat_natCast] at D
  have f0 := failC_take (tot_nn R.vb) R.run i
  cases hr : runN (sortI (listB b)) ((elP p).take i) with
  | none =>
    obtain ⟨k, _, h2⟩ := D.no hr
    rw [lb, f0] at h2
    cases h2
  | some z =>
    obtain ⟨d1, d2, d3⟩ := D.ok z hr
    rw [lb] at d1 d2 d3
    exact ⟨z, rfl, d2, d3, by rw [D.el]; exact d1⟩
theorem Run.val (R : Run p b) (i : Nat) : Val (conB p b i) := by
  have pt := part_fstP p (i : Int) R.ok R.mid (by omega)
  exact (em_prg pt.ok).ok.vap b
theorem Run.key (R : Run p b) (i : Nat) : KeyB (conB p b i) := by
  have pt := part_fstP p (i : Int) R.ok R.mid (by omega)
  exact key_ap (em_prg pt.ok) R.kb
theorem Run.z (R : Run p b) : b.length ≤ 4000000 := by have := key_len R.vb R.kb; omega
theorem Run.len (R : Run p b) : ((elP p).length : Int) = bndP p := elP_len p R.ok
def fateC (p : Prg) (b : Bag) (i : Nat) (n : Int) : Option Nat := failC (some n) (cum (conB p b i) n) ((elP p).drop (i + 1)) 0
end
end HL

namespace HL
open PySem DL L2
variable [Ctr]
section
variable {M : Mem} {P : D → Mem → Prop} {p : Prg} {b : Bag} {i : Nat} {n : Int}
end
end HL

namespace HL
open PySem DL L2
variable [Ctr]
/-! ### drawn sequences -/
section
variable {l : Nat} {M : Mem} {P : D → Mem → Prop} {W : Wi} {b w : Int} {F : Fn} {ds : List D}
end
end HL

namespace HL
open PySem DL L2
variable [Ctr]
section
variable {M : Mem} {P : D → Mem → Prop} {W : Wi} {ns : List Int} {p d q m b w : Int} {l : Nat}
/-- a great program that is drawn -/
def grtP (b : Int) (a q e : Prg) (c g h : Int) : Prg := a ++ [.ins (b + 1) c] ++ [.rep g (q ++ [.rep h q])] ++ e
structure Grt (b : Int) (a q e : Prg) (c g h : Int) : Prop where
  sa : smQP b 4 a
  sq : smQP b 4 q
  se : smQP b 4 e
  la : a.length ≤ 3
  lq : q.length ≤ 3
  le : e.length ≤ 3
  na : nestP a ≤ 1
  nq : nestP q ≤ 2
  ne : nestP e ≤ 1
  c0 : 0 ≤ c ∧ c ≤ 1000000000000000000000000000000
  g0 : 0 ≤ g ∧ g ≤ 1000000000000000000000000000000
  h0 : 0 ≤ h ∧ h ≤ 1000000000000000000000000000000
end
end HL

namespace HL
open PySem DL L2
variable [Ctr]
/-! ### sequences -/
section
variable {M : Mem} {P : D → Mem → Prop} {E : Exn → Mem → Prop} {W : Wi} {t : List Est} {s : Est} {k : Nat} {env : DL.Env}
def invSq (d : D) : Exn := ⟨"InvalidSequence", [("index", d)]⟩
end
/-! ### exchanges -/
def swapE (t : List Est) (k : Nat) : List Est := t.take k ++ [(t[k + 1]?).getD none, (t[k]?).getD none] ++ t.drop (k + 2)
section
variable {M : Mem} {P : D → Mem → Prop} {t : List Est} {k : Nat}
end
end HL

namespace HL
open PySem DL L2
variable [Ctr]
/-! ### values that are refused -/
def ibX (x : D) : Exn := ⟨"InvalidBag", [("value", x)]⟩
def icX (x : D) : Exn := ⟨"InvalidCount", [("value", x)]⟩
def inX (x : D) : Exn := ⟨"InvalidNumber", [("value", x)]⟩
def ipX (x : D) : Exn := ⟨"InvalidProgram", [("path", x)]⟩
def ieX (x : D) : Exn := ⟨"InvalidEffect", [("part", x)]⟩
def orX (x : D) : Exn := ⟨"OutOfRange", [("value", x)]⟩
structure BadB (x : D) : Prop where
  pu : pureD x = true
  e : ∀ M, callF F_bags_is_bag [x] M = .ok (.bl false) M
structure BadC (x : D) : Prop where
  pu : pureD x = true
  e : ∀ M, callF F_bags_is_count [x] M = .ok (.bl false) M
structure BadN (x : D) : Prop where
  pu : pureD x = true
  e : ∀ M, callF F_bags_is_integer [x] M = .ok (.bl false) M
structure BadP (x y : D) : Prop where
  pu : pureD x = true
  pv : pureD y = true
  e : ∀ M, callF F_programs_check_program [x] M = .ex (ipX y) M
theorem pu1 {x y : D} {f : Str} (h : pureD x = true) : puresF [(f, x)] = true := by
  show (pureD x && true) = true
  rw [h]; rfl
section
variable {M : Mem} {P : D → Mem → Prop} {E : Exn → Mem → Prop} {W : Wi} {x y z : D} {p : Prg} {b : Bag}
theorem BadB.chk (h : BadB x) : callF F_bags_check_bag [x] M = .ex (ibX x) M := by
  refine callX_eq (pure_cons h.pu rfl) (pu1 (y := .non) h.pu) ?_
  simp only [F_bags_check_bag, c_bags_check_bag, xO_ok, xO_ex, x_defn1, x_defn2, x_defn3, x_defn4, x_var0, x_varS, x_c, x_nil, x_cons, x_tup, x_lst, x_new, x_op, x_fn, x_fnN, x_call, x_make, x_cmt, x_not, x_and, x_or, x_if, x_seq, x_snil, x_asg, x_expr, x_ret, x_retN, x_raise, x_gN, x_sif, ifB_bl, notB_bl, w_gI, w_add, List.map, List.replicate, List.set, List.append, wipeE, decide_eq_true_eq, Bool.not_true, Bool.not_false, Bool.false_eq_true, if_true, if_false, Bool.not_eq_true, decide_eq_false_iff_not, Bool.true_eq_false, reduceIte, decide_true, decide_false, Nat.reduceSub, Nat.add_zero, h.e, xO_ok, notB_bl]
  rfl
theorem BadC.chk (h : BadC x) : callF F_bags_check_count [x] M = .ex (icX x) M := by
  refine callX_eq (pure_cons h.pu rfl) (pu1 (y := .non) h.pu) ?_
  simp only [F_bags_check_count, c_bags_check_count, xO_ok, xO_ex, x_defn1, x_defn2, x_defn3, x_defn4, x_var0, x_varS, x_c, x_nil, x_cons, x_tup, x_lst, x_new, x_op, x_fn, x_fnN, x_call, x_make, x_cmt, x_not, x_and, x_or, x_if, x_seq, x_snil, x_asg, x_expr, x_ret, x_retN, x_raise, x_gN, x_sif, ifB_bl, notB_bl, w_gI, w_add, List.map, List.replicate, List.set, List.append, wipeE, decide_eq_true_eq, Bool.not_true, Bool.not_false, Bool.false_eq_true, if_true, if_false, Bool.not_eq_true, decide_eq_false_iff_not, Bool.true_eq_false, reduceIte, decide_true, decide_false, Nat.reduceSub, Nat.add_zero, h.e, xO_ok, notB_bl]
  rfl
theorem BadN.chk (h : BadN x) : callF F_bags_check_number [x] M = .ex (inX x) M := by
  refine callX_eq (pure_cons h.pu rfl) (pu1 (y := .non) h.pu) ?_
  simp only [F_bags_check_number, c_bags_check_number, xO_ok, xO_ex, x_defn1, x_defn2, x_defn3, x_defn4, x_var0, x_varS, x_c, x_nil, x_cons, x_tup, x_lst, x_new, x_op, x_fn, x_fnN, x_call, x_make, x_cmt, x_not, x_and, x_or, x_if, x_seq, x_snil, x_asg, x_expr, x_ret, x_retN, x_raise, x_gN, x_sif, ifB_bl, notB_bl, w_gI, w_add, List.map, List.replicate, List.set, List.append, wipeE, decide_eq_true_eq, Bool.not_true, Bool.not_false, Bool.false_eq_true, if_true, if_false, Bool.not_eq_true, decide_eq_false_iff_not, Bool.true_eq_false, reduceIte, decide_true, decide_false, Nat.reduceSub, Nat.add_zero, h.e, xO_ok, notB_bl]
  rfl
/-- indexes -/
theorem BadP.index (h : BadP x y) (hz : pureD z = true) {n : Int} : callF F_programs_check_index [x, z, .int n] M = .ex (ipX y) M := by
  refine callX_eq (pure_cons h.pu (pure_cons hz rfl)) (pu1 (y := .non) h.pv) ?_
  simp only [F_programs_check_index, c_programs_check_index, xO_ok, xO_ex, x_defn1, x_defn2, x_defn3, x_defn4, x_var0, x_varS, x_c, x_nil, x_cons, x_tup, x_lst, x_new, x_op, x_fn, x_fnN, x_call, x_make, x_cmt, x_not, x_and, x_or, x_if, x_seq, x_snil, x_asg, x_expr, x_ret, x_retN, x_raise, x_gN, x_sif, ifB_bl, notB_bl, w_gI, w_add, List.map, List.replicate, List.set, List.append, wipeE, decide_eq_true_eq, Bool.not_true, Bool.not_false, Bool.false_eq_true, if_true, if_false, Bool.not_eq_true, decide_eq_false_iff_not, Bool.true_eq_false, reduceIte, decide_true, decide_false, Nat.reduceSub, Nat.add_zero, h.e]
/-- no count, or too great a one -/
def OutI (z : D) (n : Int) : Prop := pureD z = true ∧ ((∀ M, callF F_bags_is_count [z] M = .ok (.bl false) M) ∨ ∃ i : Int, z = .int i ∧ 0 ≤ i ∧ n ≤ i)
end
end HL

namespace HL
open PySem DL L2
variable [Ctr]
/-! ### steps: equality, counts, texts -/
section
variable {M : Mem} {P : D → Mem → Prop} {E : Exn → Mem → Prop} {W : Wi} {t : List Est}
variable {k : Nat}
end
/-! ### data equal to itself -/
mutual
theorem eqv_refl : ∀ {x : D}, okD x = true → eqvD x x = true
  | .non, _ => rfl
  | .bl b, _ => by show (b == b) = true; simp
  | .int i, _ => by show (i == i) = true; simp
  | .str s, _ => by show (s == s) = true; simp
  | .tup xs, h => eqvs_refl (xs := xs) h
  | .itm xs, h => eqvs_refl (xs := xs) h
  | .lst xs, h => eqvs_refl (xs := xs) h
  | .fzl xs, h => eqvs_refl (xs := xs) h
  | .ref _, h => by cases h
  | .glo _, h => by cases h
  | .ty _, h => by cases h
  | .inst _ _, h => by cases h
  | .dcv _, h => by cases h
theorem eqvs_refl : ∀ {xs : List D}, okDs xs = true → eqvDs xs xs = true
  | [], _ => rfl
  | x :: xs, h => by
    obtain ⟨h1, h2⟩ := Bool.and_eq_true_iff.mp (show (okD x && okDs xs) = true from h)
    show (eqvD x x && eqvDs xs xs) = true
    rw [eqv_refl h1, eqvs_refl h2]; rfl
end
section
variable {M : Mem} {P : D → Mem → Prop} {x : D} {xs : List D}
theorem valD_ok (h : okD x = true) : valD M x = x := by
  cases x with
  | ref l => cases h
  | _ => rfl
theorem w_neSame (h : shD x = true) : wO (gNe x x M) P = P (.bl false) M := by
  obtain ⟨h1, _⟩ := Bool.and_eq_true_iff.mp h
  have hv : valD M x = x := valD_ok h1
  rw [w_ne (x := x) (y := x) (by rw [hv]; exact h) (by rw [hv]; exact h), hv, eqv_refl h1]
  rfl
/-- a value's text -/
def Txt (x : D) (t : Str) : Prop := (∀ M, nReprD [x] M = .ok (.str t) M) ∧ PyData.strOk t = true
theorem txt_of (h : rpD x = true) (hz : szD x ≤ 16000000) (hd : dpD x ≤ 64) : Txt x (shoD x) := by
  refine ⟨fun M => ?_, shoD_ok h⟩
  have e : nRepr [x] M = .ok (.str (shoD x)) M := ok_of_w fun P => w_repr h hz hd
  show (nRepr [x] M).or _ = _
  rw [e]; rfl
theorem txt_dv : Txt (.dcv []) "{}" := ⟨fun M => rfl, by decide +kernel⟩
theorem sh_two {a b : Str} (ha : PyData.strOk a = true) (hb : PyData.strOk b = true) : shD (.lst [.str a, .str b]) = true := by
  show ((PyData.strOk a && (PyData.strOk b && true)) && decide (max 0 (max 0 0) + 1 ≤ 64)) = true
  rw [ha, hb]; rfl
end
end HL

namespace L_k19
open PySem DL HL L2
instance inst0 : Ctr := ⟨0, 0⟩
instance : Zero0 := ⟨rfl⟩
section
variable {M : Mem} {P : D → Mem → Prop} {E : Exn → Mem → Prop} {W : Wi} {x y z u : D} {e : Ef} {B r : Int} {b : Bag} {t : Str} {l : Nat}
theorem mk1 (h : BadB x) (hy : pureD y = true) (hz : pureD z = true) : makeF "Effect" F_Effect_init [x, y, z] M = .ex (ibX x) M := by
  refine makeX_eq (pure_cons h.pu (pure_cons hy (pure_cons hz rfl))) (pu1 (y := .non) h.pu) ?_
  simp only [F_Effect_init, c_Effect_init, xO_ok, xO_ex, x_defn1, x_defn2, x_defn3, x_defn4, x_var0, x_varS, x_c, x_nil, x_cons, x_tup, x_lst, x_new, x_op, x_fn, x_fnN, x_call, x_make, x_cmt, x_not, x_and, x_or, x_if, x_seq, x_snil, x_asg, x_expr, x_ret, x_retN, x_raise, x_gN, x_sif, ifB_bl, notB_bl, w_gI, w_add, List.map, List.replicate, List.set, List.append, wipeE, decide_eq_true_eq, Bool.not_true, Bool.not_false, Bool.false_eq_true, if_true, if_false, Bool.not_eq_true, decide_eq_false_iff_not, Bool.true_eq_false, reduceIte, decide_true, decide_false, Nat.reduceSub, Nat.add_zero, h.chk]
theorem mk2 (hb : Val b) (zb : b.length ≤ 4000000) (h : BadC y) (hz : pureD z = true) : makeF "Effect" F_Effect_init [bagD b, y, z] M = .ex (icX y) M := by
  refine makeX_eq (pure_cons (pb _) (pure_cons h.pu (pure_cons hz rfl))) (pu1 (y := .non) h.pu) ?_
  simp only [F_Effect_init, c_Effect_init, xO_ok, xO_ex, x_defn1, x_defn2, x_defn3, x_defn4, x_var0, x_varS, x_c, x_nil, x_cons, x_tup, x_lst, x_new, x_op, x_fn, x_fnN, x_call, x_make, x_cmt, x_not, x_and, x_or, x_if, x_seq, x_snil, x_asg, x_expr, x_ret, x_retN, x_raise, x_gN, x_sif, ifB_bl, notB_bl, w_gI, w_add, List.map, List.replicate, List.set, List.append, wipeE, decide_eq_true_eq, Bool.not_true, Bool.not_false, Bool.false_eq_true, if_true, if_false, Bool.not_eq_true, decide_eq_false_iff_not, Bool.true_eq_false, reduceIte, decide_true, decide_false, Nat.reduceSub, Nat.add_zero, e_check_bag hb zb]
  simp only [c_Effect_init_5, xO_ok, xO_ex, x_defn1, x_defn2, x_defn3, x_defn4, x_var0, x_varS, x_c, x_nil, x_cons, x_tup, x_lst, x_new, x_op, x_fn, x_fnN, x_call, x_make, x_cmt, x_not, x_and, x_or, x_if, x_seq, x_snil, x_asg, x_expr, x_ret, x_retN, x_raise, x_gN, x_sif, ifB_bl, notB_bl, w_gI, w_add, List.map, List.replicate, List.set, List.append, wipeE, decide_eq_true_eq, Bool.not_true, Bool.not_false, Bool.false_eq_true, if_true, if_false, Bool.not_eq_true, decide_eq_false_iff_not, Bool.true_eq_false, reduceIte, decide_true, decide_false, Nat.reduceSub, Nat.add_zero, h.chk]
theorem mk3 (hb : Val b) (zb : b.length ≤ 4000000) (hr : 0 ≤ r) (h : BadB z) : makeF "Effect" F_Effect_init [bagD b, .int r, z] M = .ex (ibX z) M := by
  refine makeX_eq (pure_cons (pb _) (pure_cons rfl (pure_cons h.pu rfl))) (pu1 (y := .non) h.pu) ?_
  simp only [F_Effect_init, c_Effect_init, xO_ok, xO_ex, x_defn1, x_defn2, x_defn3, x_defn4, x_var0, x_varS, x_c, x_nil, x_cons, x_tup, x_lst, x_new, x_op, x_fn, x_fnN, x_call, x_make, x_cmt, x_not, x_and, x_or, x_if, x_seq, x_snil, x_asg, x_expr, x_ret, x_retN, x_raise, x_gN, x_sif, ifB_bl, notB_bl, w_gI, w_add, List.map, List.replicate, List.set, List.append, wipeE, decide_eq_true_eq, Bool.not_true, Bool.not_false, Bool.false_eq_true, if_true, if_false, Bool.not_eq_true, decide_eq_false_iff_not, Bool.true_eq_false, reduceIte, decide_true, decide_false, Nat.reduceSub, Nat.add_zero, e_check_bag hb zb]
  simp only [c_Effect_init_5, xO_ok, xO_ex, x_defn1, x_defn2, x_defn3, x_defn4, x_var0, x_varS, x_c, x_nil, x_cons, x_tup, x_lst, x_new, x_op, x_fn, x_fnN, x_call, x_make, x_cmt, x_not, x_and, x_or, x_if, x_seq, x_snil, x_asg, x_expr, x_ret, x_retN, x_raise, x_gN, x_sif, ifB_bl, notB_bl, w_gI, w_add, List.map, List.replicate, List.set, List.append, wipeE, decide_eq_true_eq, Bool.not_true, Bool.not_false, Bool.false_eq_true, if_true, if_false, Bool.not_eq_true, decide_eq_false_iff_not, Bool.true_eq_false, reduceIte, decide_true, decide_false, Nat.reduceSub, Nat.add_zero, e_check_count hr]
  simp only [c_Effect_init_4, xO_ok, xO_ex, x_defn1, x_defn2, x_defn3, x_defn4, x_var0, x_varS, x_c, x_nil, x_cons, x_tup, x_lst, x_new, x_op, x_fn, x_fnN, x_call, x_make, x_cmt, x_not, x_and, x_or, x_if, x_seq, x_snil, x_asg, x_expr, x_ret, x_retN, x_raise, x_gN, x_sif, ifB_bl, notB_bl, w_gI, w_add, List.map, List.replicate, List.set, List.append, wipeE, decide_eq_true_eq, Bool.not_true, Bool.not_false, Bool.false_eq_true, if_true, if_false, Bool.not_eq_true, decide_eq_false_iff_not, Bool.true_eq_false, reduceIte, decide_true, decide_false, Nat.reduceSub, Nat.add_zero, h.chk]
theorem of1 (h : BadP x y) : callF F_Effect_of [.glo "Effect", x] M = .ex (ipX y) M := by
  refine callX_eq (pure_cons rfl (pure_cons h.pu rfl)) (pu1 (y := .non) h.pv) ?_
  simp only [F_Effect_of, c_Effect_of, xO_ok, xO_ex, x_defn1, x_defn2, x_defn3, x_defn4, x_var0, x_varS, x_c, x_nil, x_cons, x_tup, x_lst, x_new, x_op, x_fn, x_fnN, x_call, x_make, x_cmt, x_not, x_and, x_or, x_if, x_seq, x_snil, x_asg, x_expr, x_ret, x_retN, x_raise, x_gN, x_sif, ifB_bl, notB_bl, w_gI, w_add, List.map, List.replicate, List.set, List.append, wipeE, decide_eq_true_eq, Bool.not_true, Bool.not_false, Bool.false_eq_true, if_true, if_false, Bool.not_eq_true, decide_eq_false_iff_not, Bool.true_eq_false, reduceIte, decide_true, decide_false, Nat.reduceSub, Nat.add_zero, h.e]
theorem pool1 (h : BadB x) : callF F_Effect_pool [effD e, x] M = .ex (ibX x) M := by
  refine callX_eq (pure_cons (pure_eff _) (pure_cons h.pu rfl)) (pu1 (y := .non) h.pu) ?_
  simp only [F_Effect_pool, c_Effect_pool, xO_ok, xO_ex, x_defn1, x_defn2, x_defn3, x_defn4, x_var0, x_varS, x_c, x_nil, x_cons, x_tup, x_lst, x_new, x_op, x_fn, x_fnN, x_call, x_make, x_cmt, x_not, x_and, x_or, x_if, x_seq, x_snil, x_asg, x_expr, x_ret, x_retN, x_raise, x_gN, x_sif, ifB_bl, notB_bl, w_gI, w_add, List.map, List.replicate, List.set, List.append, wipeE, decide_eq_true_eq, Bool.not_true, Bool.not_false, Bool.false_eq_true, if_true, if_false, Bool.not_eq_true, decide_eq_false_iff_not, Bool.true_eq_false, reduceIte, decide_true, decide_false, Nat.reduceSub, Nat.add_zero, h.chk]
theorem apply1 (h : BadB x) : callF F_Effect_apply [effD e, x] M = .ex (ibX x) M := by
  refine callX_eq (pure_cons (pure_eff _) (pure_cons h.pu rfl)) (pu1 (y := .non) h.pu) ?_
  have h1 := fun M => pool1 (M := M) (e := e) h
  have np : ∀ {P : D → Mem → Prop} {E : Exn → Mem → Prop}, xO (eProp "Effect" F_Effect_survivors (eVar 0) [some (effD e), some x] []) P E = P (bagD e.S) [] := fun {P E} => x_w fun P => by simp only [w_defn1, w_defn2, w_defn3, w_defn4, w_defn5, w_seq, w_snil, w_asg, w_expr, w_ret, w_retN, w_brk, w_cont, w_sif, ifB_bl, notB_bl, w_gN, w_par, w_par3, w_gsNil, w_gsCons, w_gT2, w_gT3, w_gTi2, w_var0, w_varS, w_c, w_nil, w_cons, w_tup, w_lst, w_new, w_newD, w_op, w_gI, w_add, w_chain, w_not, w_and, w_or, w_if, w_call, w_fn, w_fnN, w_make, w_neg, w_negI, w_t20, w_t21, w_t30, w_t31, w_t32, w_min2, w_max2, w_lenT, w_for, w_iA, wO_ok, w_cmt, List.map, List.replicate, List.set, List.append, wipeE, decide_eq_true_eq, Bool.not_true, Bool.not_false, Bool.false_eq_true, if_true, if_false, Bool.not_eq_true, decide_eq_false_iff_not, Bool.true_eq_false, reduceIte, decide_true, decide_false, Nat.reduceSub, Nat.add_zero, w_prop, w_propE e_survivors]
  simp only [F_Effect_apply, c_Effect_apply, xO_ok, xO_ex, x_defn1, x_defn2, x_defn3, x_defn4, x_var0, x_varS, x_c, x_nil, x_cons, x_tup, x_lst, x_new, x_op, x_fn, x_fnN, x_call, x_make, x_cmt, x_not, x_and, x_or, x_if, x_seq, x_snil, x_asg, x_expr, x_ret, x_retN, x_raise, x_gN, x_sif, ifB_bl, notB_bl, w_gI, w_add, List.map, List.replicate, List.set, List.append, wipeE, decide_eq_true_eq, Bool.not_true, Bool.not_false, Bool.false_eq_true, if_true, if_false, Bool.not_eq_true, decide_eq_false_iff_not, Bool.true_eq_false, reduceIte, decide_true, decide_false, Nat.reduceSub, Nat.add_zero, np, x_methE (m := "pool") (by decide), h1]
theorem removed1 (h : BadB x) : callF F_Effect_removed [effD e, x] M = .ex (ibX x) M := by
  refine callX_eq (pure_cons (pure_eff _) (pure_cons h.pu rfl)) (pu1 (y := .non) h.pu) ?_
  have h1 := fun M => pool1 (M := M) (e := e) h
  simp only [F_Effect_removed, c_Effect_removed, xO_ok, xO_ex, x_defn1, x_defn2, x_defn3, x_defn4, x_var0, x_varS, x_c, x_nil, x_cons, x_tup, x_lst, x_new, x_op, x_fn, x_fnN, x_call, x_make, x_cmt, x_not, x_and, x_or, x_if, x_seq, x_snil, x_asg, x_expr, x_ret, x_retN, x_raise, x_gN, x_sif, ifB_bl, notB_bl, w_gI, w_add, List.map, List.replicate, List.set, List.append, wipeE, decide_eq_true_eq, Bool.not_true, Bool.not_false, Bool.false_eq_true, if_true, if_false, Bool.not_eq_true, decide_eq_false_iff_not, Bool.true_eq_false, reduceIte, decide_true, decide_false, Nat.reduceSub, Nat.add_zero, x_methE (m := "pool") (by decide), h1]
theorem removedX (h : Em e B) (hb : Val b) (kb : KeyB b) (hn : tot b < e.need) : callF F_Effect_removed [effD e, bagD b] M = .ex empX M := by
  refine callX_eq (pure_cons (pure_eff _) (pure_cons (pb _) rfl)) rfl ?_
  have h1 := fun M => e_poolX (M := M) h hb kb hn
  simp only [F_Effect_removed, c_Effect_removed, xO_ok, xO_ex, x_defn1, x_defn2, x_defn3, x_defn4, x_var0, x_varS, x_c, x_nil, x_cons, x_tup, x_lst, x_new, x_op, x_fn, x_fnN, x_call, x_make, x_cmt, x_not, x_and, x_or, x_if, x_seq, x_snil, x_asg, x_expr, x_ret, x_retN, x_raise, x_gN, x_sif, ifB_bl, notB_bl, w_gI, w_add, List.map, List.replicate, List.set, List.append, wipeE, decide_eq_true_eq, Bool.not_true, Bool.not_false, Bool.false_eq_true, if_true, if_false, Bool.not_eq_true, decide_eq_false_iff_not, Bool.true_eq_false, reduceIte, decide_true, decide_false, Nat.reduceSub, Nat.add_zero, x_methE (m := "pool") (by decide), h1]
theorem moved1 (h : BadN x) : callF F_Effect_moved [effD e, x] M = .ex (inX x) M := by
  refine callX_eq (pure_cons (pure_eff _) (pure_cons h.pu rfl)) (pu1 (y := .non) h.pu) ?_
  simp only [F_Effect_moved, c_Effect_moved, xO_ok, xO_ex, x_defn1, x_defn2, x_defn3, x_defn4, x_var0, x_varS, x_c, x_nil, x_cons, x_tup, x_lst, x_new, x_op, x_fn, x_fnN, x_call, x_make, x_cmt, x_not, x_and, x_or, x_if, x_seq, x_snil, x_asg, x_expr, x_ret, x_retN, x_raise, x_gN, x_sif, ifB_bl, notB_bl, w_gI, w_add, List.map, List.replicate, List.set, List.append, wipeE, decide_eq_true_eq, Bool.not_true, Bool.not_false, Bool.false_eq_true, if_true, if_false, Bool.not_eq_true, decide_eq_false_iff_not, Bool.true_eq_false, reduceIte, decide_true, decide_false, Nat.reduceSub, Nat.add_zero, h.chk]
theorem x_eqI {i j : Int} : xO (gEq (.int i) (.int j) M) P E = P (.bl (i == j)) M := x_w fun P => w_eqI
theorem pu4 {d : D} (h1 : pureD d = true) (h2 : pureD x = true) (h3 : pureD y = true) (h4 : pureD z = true) : puresD [d, x, y, z] = true := pure_cons h1 (pure_cons h2 (pure_cons h3 (pure_cons h4 rfl)))
/-- the try's body: what it raises -/
def Rs (k : Int) (x y z : D) (e : Exn) : Prop := ∀ {W : Wi} {ES : Exn → DL.Env → Mem → Prop}, xS (c_q_outcome_v6_1 [some (.int k), some x, some y, some z, none] []) W ES = ES e [some (.int k), some x, some y, some z, none] []
theorem rs0 {e : Exn} (h : makeF "Effect" F_Effect_init [x, y, z] [] = .ex e []) : Rs 0 x y z e := fun {W ES} => by
  simp only [c_q_outcome_v6_1, xO_ok, xO_ex, x_defn1, x_defn2, x_defn3, x_defn4, x_var0, x_varS, x_c, x_nil, x_cons, x_tup, x_lst, x_new, x_op, x_fn, x_fnN, x_call, x_make, x_cmt, x_not, x_and, x_or, x_if, x_seq, x_snil, x_asg, x_expr, x_ret, x_retN, x_raise, x_gN, x_sif, ifB_bl, notB_bl, w_gI, w_add, List.map, List.replicate, List.set, List.append, wipeE, decide_eq_true_eq, Bool.not_true, Bool.not_false, Bool.false_eq_true, if_true, if_false, Bool.not_eq_true, decide_eq_false_iff_not, Bool.true_eq_false, reduceIte, decide_true, decide_false, Nat.reduceSub, Nat.add_zero, x_eqI, h, show ((0 : Int) == 0) = true from rfl]
theorem rs1 {e : Exn} (h : callF F_Effect_of [.glo "Effect", x] [] = .ex e []) : Rs 1 x y z e := fun {W ES} => by
  simp only [c_q_outcome_v6_1, xO_ok, xO_ex, x_defn1, x_defn2, x_defn3, x_defn4, x_var0, x_varS, x_c, x_nil, x_cons, x_tup, x_lst, x_new, x_op, x_fn, x_fnN, x_call, x_make, x_cmt, x_not, x_and, x_or, x_if, x_seq, x_snil, x_asg, x_expr, x_ret, x_retN, x_raise, x_gN, x_sif, ifB_bl, notB_bl, w_gI, w_add, List.map, List.replicate, List.set, List.append, wipeE, decide_eq_true_eq, Bool.not_true, Bool.not_false, Bool.false_eq_true, if_true, if_false, Bool.not_eq_true, decide_eq_false_iff_not, Bool.true_eq_false, reduceIte, decide_true, decide_false, Nat.reduceSub, Nat.add_zero, x_eqI, x_cmt, h, show ((1 : Int) == 0) = false from rfl, show ((1 : Int) == 1) = true from rfl]
theorem rs2 {f : Exn} (h : callF F_Effect_apply [effD e, y] [] = .ex f []) : Rs 2 (effD e) y z f := fun {W ES} => by
  have m : ∀ {fl : EvL} {P : D → Mem → Prop} {E : Exn → Mem → Prop}, xO (eMeth "Effect" "apply" F_Effect_apply (eVar 1) fl [some (.int 2), some (effD e), some y, some z, none] []) P E = xL (fl [some (.int 2), some (effD e), some y, some z, none] []) (fun ds M2 => xO (callF F_Effect_apply (effD e :: ds) M2) P E) E := fun {fl P E} => by
    have := x_methE (M := []) (P := P) (E := E) (e := e) (F := F_Effect_apply) (fl := fun _ M => fl [some (.int 2), some (effD e), some y, some z, none] M) (env := []) (m := "apply") (by decide)
    exact this
  simp only [c_q_outcome_v6_1, xO_ok, xO_ex, x_defn1, x_defn2, x_defn3, x_defn4, x_var0, x_varS, x_c, x_nil, x_cons, x_tup, x_lst, x_new, x_op, x_fn, x_fnN, x_call, x_make, x_cmt, x_not, x_and, x_or, x_if, x_seq, x_snil, x_asg, x_expr, x_ret, x_retN, x_raise, x_gN, x_sif, ifB_bl, notB_bl, w_gI, w_add, List.map, List.replicate, List.set, List.append, wipeE, decide_eq_true_eq, Bool.not_true, Bool.not_false, Bool.false_eq_true, if_true, if_false, Bool.not_eq_true, decide_eq_false_iff_not, Bool.true_eq_false, reduceIte, decide_true, decide_false, Nat.reduceSub, Nat.add_zero, x_eqI, m, h, show ((2 : Int) == 0) = false from rfl, show ((2 : Int) == 1) = false from rfl, show ((2 : Int) == 2) = true from rfl]
theorem rs3 {f : Exn} (h : callF F_Effect_removed [effD e, y] [] = .ex f []) : Rs 3 (effD e) y z f := fun {W ES} => by
  have m : ∀ {fl : EvL} {P : D → Mem → Prop} {E : Exn → Mem → Prop}, xO (eMeth "Effect" "removed" F_Effect_removed (eVar 1) fl [some (.int 3), some (effD e), some y, some z, none] []) P E = xL (fl [some (.int 3), some (effD e), some y, some z, none] []) (fun ds M2 => xO (callF F_Effect_removed (effD e :: ds) M2) P E) E := fun {fl P E} => by
    have := x_methE (M := []) (P := P) (E := E) (e := e) (F := F_Effect_removed) (fl := fun _ M => fl [some (.int 3), some (effD e), some y, some z, none] M) (env := []) (m := "removed") (by decide)
    exact this
  simp only [c_q_outcome_v6_1, xO_ok, xO_ex, x_defn1, x_defn2, x_defn3, x_defn4, x_var0, x_varS, x_c, x_nil, x_cons, x_tup, x_lst, x_new, x_op, x_fn, x_fnN, x_call, x_make, x_cmt, x_not, x_and, x_or, x_if, x_seq, x_snil, x_asg, x_expr, x_ret, x_retN, x_raise, x_gN, x_sif, ifB_bl, notB_bl, w_gI, w_add, List.map, List.replicate, List.set, List.append, wipeE, decide_eq_true_eq, Bool.not_true, Bool.not_false, Bool.false_eq_true, if_true, if_false, Bool.not_eq_true, decide_eq_false_iff_not, Bool.true_eq_false, reduceIte, decide_true, decide_false, Nat.reduceSub, Nat.add_zero, x_eqI, m, h, show ((3 : Int) == 0) = false from rfl, show ((3 : Int) == 1) = false from rfl, show ((3 : Int) == 2) = false from rfl, show ((3 : Int) == 3) = true from rfl]
theorem rs4 {f : Exn} (h : callF F_Effect_moved [effD e, y] [] = .ex f []) : Rs 4 (effD e) y z f := fun {W ES} => by
  have m : ∀ {fl : EvL} {P : D → Mem → Prop} {E : Exn → Mem → Prop}, xO (eMeth "Effect" "moved" F_Effect_moved (eVar 1) fl [some (.int 4), some (effD e), some y, some z, none] []) P E = xL (fl [some (.int 4), some (effD e), some y, some z, none] []) (fun ds M2 => xO (callF F_Effect_moved (effD e :: ds) M2) P E) E := fun {fl P E} => by
    have := x_methE (M := []) (P := P) (E := E) (e := e) (F := F_Effect_moved) (fl := fun _ M => fl [some (.int 4), some (effD e), some y, some z, none] M) (env := []) (m := "moved") (by decide)
    exact this
  simp only [c_q_outcome_v6_1, xO_ok, xO_ex, x_defn1, x_defn2, x_defn3, x_defn4, x_var0, x_varS, x_c, x_nil, x_cons, x_tup, x_lst, x_new, x_op, x_fn, x_fnN, x_call, x_make, x_cmt, x_not, x_and, x_or, x_if, x_seq, x_snil, x_asg, x_expr, x_ret, x_retN, x_raise, x_gN, x_sif, ifB_bl, notB_bl, w_gI, w_add, List.map, List.replicate, List.set, List.append, wipeE, decide_eq_true_eq, Bool.not_true, Bool.not_false, Bool.false_eq_true, if_true, if_false, Bool.not_eq_true, decide_eq_false_iff_not, Bool.true_eq_false, reduceIte, decide_true, decide_false, Nat.reduceSub, Nat.add_zero, x_eqI, m, h, show ((4 : Int) == 0) = false from rfl, show ((4 : Int) == 1) = false from rfl, show ((4 : Int) == 2) = false from rfl, show ((4 : Int) == 3) = false from rfl]
theorem o_bag {k : Int} (hx : pureD x = true) (hy : pureD y = true) (hz : pureD z = true) (h : Rs k x y z (ibX u)) (ht : Txt u t) : callF F_q_outcome_v6 [.int k, x, y, z] M = .ok (.lst [.str "bag", .str t]) M := by
  refine callP_eq (pu4 rfl hx hy hz) rfl ?_
  simp only [F_q_outcome_v6, c_q_outcome_v6, w_defn4, w_seq, w_try, List.replicate]
  rw [h]
  unfold ibX
  rw [if_pos (show (Str.ofString "InvalidBag") ∈ _ by decide), w_clRet rfl]
  have e1 : ∀ {P : D → Mem → Prop} {env : DL.Env}, 4 < env.length → wO (xRd 4 "value" ⟨"InvalidBag", [("value", u)]⟩ env []) P = P u [] := fun {P env} h => w_rd h rfl
  simp only [w_lst, w_cons, w_nil, w_c, w_call, wO_ok]
  rw [e1 (by simp [wipO])]
  simp only [ht.1, wO_ok, w_nil, w_cons, w_lst]
theorem o_count {k : Int} (hx : pureD x = true) (hy : pureD y = true) (hz : pureD z = true) (h : Rs k x y z (icX u)) (ht : Txt u t) : callF F_q_outcome_v6 [.int k, x, y, z] M = .ok (.lst [.str "count", .str t]) M := by
  refine callP_eq (pu4 rfl hx hy hz) rfl ?_
  simp only [F_q_outcome_v6, c_q_outcome_v6, w_defn4, w_seq, w_try, List.replicate]
  rw [h]
  unfold icX
  rw [if_pos (show (Str.ofString "InvalidCount") ∈ _ by decide), w_clMiss (show ¬ Str.ofString "InvalidBag" = Str.ofString "InvalidCount" by decide), w_clRet rfl]
  have e1 : ∀ {P : D → Mem → Prop} {env : DL.Env}, 4 < env.length → wO (xRd 4 "value" ⟨"InvalidCount", [("value", u)]⟩ env []) P = P u [] := fun {P env} h => w_rd h rfl
  simp only [w_lst, w_cons, w_nil, w_c, w_call, wO_ok]
  rw [e1 (by simp [wipO])]
  simp only [ht.1, wO_ok, w_nil, w_cons, w_lst]
theorem o_num {k : Int} (hx : pureD x = true) (hy : pureD y = true) (hz : pureD z = true) (h : Rs k x y z (inX u)) (ht : Txt u t) : callF F_q_outcome_v6 [.int k, x, y, z] M = .ok (.lst [.str "number", .str t]) M := by
  refine callP_eq (pu4 rfl hx hy hz) rfl ?_
  simp only [F_q_outcome_v6, c_q_outcome_v6, w_defn4, w_seq, w_try, List.replicate]
  rw [h]
  unfold inX
  rw [if_pos (show (Str.ofString "InvalidNumber") ∈ _ by decide), w_clMiss (show ¬ Str.ofString "InvalidBag" = Str.ofString "InvalidNumber" by decide), w_clMiss (show ¬ Str.ofString "InvalidCount" = Str.ofString "InvalidNumber" by decide), w_clRet rfl]
  have e1 : ∀ {P : D → Mem → Prop} {env : DL.Env}, 4 < env.length → wO (xRd 4 "value" ⟨"InvalidNumber", [("value", u)]⟩ env []) P = P u [] := fun {P env} h => w_rd h rfl
  simp only [w_lst, w_cons, w_nil, w_c, w_call, wO_ok]
  rw [e1 (by simp [wipO])]
  simp only [ht.1, wO_ok, w_nil, w_cons, w_lst]
theorem o_prg {k : Int} (hx : pureD x = true) (hy : pureD y = true) (hz : pureD z = true) (hu : pureD u = true) (h : Rs k x y z (ipX u)) : callF F_q_outcome_v6 [.int k, x, y, z] M = .ok (.lst [.str "program", u]) M := by
  refine callP_eq (pu4 rfl hx hy hz) (by show (pureD (.str "program") && (pureD u && true)) = true; rw [hu]; rfl) ?_
  simp only [F_q_outcome_v6, c_q_outcome_v6, w_defn4, w_seq, w_try, List.replicate]
  rw [h]
  unfold ipX
  rw [if_pos (show (Str.ofString "InvalidProgram") ∈ _ by decide), w_clMiss (show ¬ Str.ofString "InvalidBag" = Str.ofString "InvalidProgram" by decide), w_clMiss (show ¬ Str.ofString "InvalidCount" = Str.ofString "InvalidProgram" by decide), w_clMiss (show ¬ Str.ofString "InvalidNumber" = Str.ofString "InvalidProgram" by decide), w_clRet rfl]
  have e1 : ∀ {P : D → Mem → Prop} {env : DL.Env}, 4 < env.length → wO (xRd 4 "path" ⟨"InvalidProgram", [("path", u)]⟩ env []) P = P u [] := fun {P env} h => w_rd h rfl
  simp only [w_lst, w_cons, w_nil, w_c, w_call, wO_ok]
  rw [e1 (by simp [wipO])]
theorem o_emp {k : Int} (hx : pureD x = true) (hy : pureD y = true) (hz : pureD z = true) (h : Rs k x y z empX) : callF F_q_outcome_v6 [.int k, x, y, z] M = .ok (.lst [.str "empty", .non]) M := by
  refine callP_eq (pu4 rfl hx hy hz) rfl ?_
  simp only [F_q_outcome_v6, c_q_outcome_v6, w_defn4, w_seq, w_try, List.replicate]
  rw [h]
  unfold empX
  rw [if_pos (show (Str.ofString "EmptyHeap") ∈ _ by decide), w_clMiss (show ¬ Str.ofString "InvalidBag" = Str.ofString "EmptyHeap" by decide), w_clMiss (show ¬ Str.ofString "InvalidCount" = Str.ofString "EmptyHeap" by decide), w_clMiss (show ¬ Str.ofString "InvalidNumber" = Str.ofString "EmptyHeap" by decide), w_clMiss (show ¬ Str.ofString "InvalidProgram" = Str.ofString "EmptyHeap" by decide), w_clRet rfl]
  have e1 : ∀ {P : D → Mem → Prop} {env : DL.Env}, 4 < env.length → wO (xRd 4 "index" ⟨"EmptyHeap", [("index", .non)]⟩ env []) P = P .non [] := fun {P env} h => w_rd h rfl
  simp only [w_lst, w_cons, w_nil, w_c, w_call, wO_ok]
  rw [e1 (by simp [wipO])]
theorem o_ok2 {r : D} (hy : pureD y = true) (h : callF F_Effect_apply [effD e, y] [] = .ok r []) : callF F_q_outcome_v6 [.int 2, effD e, y, .non] M = .ok .non M := by
  have m : ∀ {fl : EvL} {P : D → Mem → Prop} {E : Exn → Mem → Prop}, xO (eMeth "Effect" "apply" F_Effect_apply (eVar 1) fl [some (.int 2), some (effD e), some y, some .non, none] []) P E = xL (fl [some (.int 2), some (effD e), some y, some .non, none] []) (fun ds M2 => xO (callF F_Effect_apply (effD e :: ds) M2) P E) E := fun {fl P E} => by
    have := x_methE (M := []) (P := P) (E := E) (e := e) (F := F_Effect_apply) (fl := fun _ M => fl [some (.int 2), some (effD e), some y, some .non, none] M) (env := []) (m := "apply") (by decide)
    exact this
  refine callP_eq (pu4 rfl (pure_eff _) hy rfl) rfl ?_
  simp only [F_q_outcome_v6, c_q_outcome_v6, w_defn4, w_seq, w_try, List.replicate]
  simp only [c_q_outcome_v6_1, xO_ok, xO_ex, x_defn1, x_defn2, x_defn3, x_defn4, x_var0, x_varS, x_c, x_nil, x_cons, x_tup, x_lst, x_new, x_op, x_fn, x_fnN, x_call, x_make, x_cmt, x_not, x_and, x_or, x_if, x_seq, x_snil, x_asg, x_expr, x_ret, x_retN, x_raise, x_gN, x_sif, ifB_bl, notB_bl, w_gI, w_add, List.map, List.replicate, List.set, List.append, wipeE, decide_eq_true_eq, Bool.not_true, Bool.not_false, Bool.false_eq_true, if_true, if_false, Bool.not_eq_true, decide_eq_false_iff_not, Bool.true_eq_false, reduceIte, decide_true, decide_false, Nat.reduceSub, Nat.add_zero, x_eqI, m, h, show ((2 : Int) == 0) = false from rfl, show ((2 : Int) == 1) = false from rfl, show ((2 : Int) == 2) = true from rfl]
  simp only [c_q_outcome_v6_2, w_defn1, w_defn2, w_defn3, w_defn4, w_defn5, w_seq, w_snil, w_asg, w_expr, w_ret, w_retN, w_brk, w_cont, w_sif, ifB_bl, notB_bl, w_gN, w_par, w_par3, w_gsNil, w_gsCons, w_gT2, w_gT3, w_gTi2, w_var0, w_varS, w_c, w_nil, w_cons, w_tup, w_lst, w_new, w_newD, w_op, w_gI, w_add, w_chain, w_not, w_and, w_or, w_if, w_call, w_fn, w_fnN, w_make, w_neg, w_negI, w_t20, w_t21, w_t30, w_t31, w_t32, w_min2, w_max2, w_lenT, w_for, w_iA, wO_ok, w_cmt, List.map, List.replicate, List.set, List.append, wipeE, decide_eq_true_eq, Bool.not_true, Bool.not_false, Bool.false_eq_true, if_true, if_false, Bool.not_eq_true, decide_eq_false_iff_not, Bool.true_eq_false, reduceIte, decide_true, decide_false, Nat.reduceSub, Nat.add_zero]
theorem o_ok3 {r : D} (hy : pureD y = true) (h : callF F_Effect_removed [effD e, y] [] = .ok r []) : callF F_q_outcome_v6 [.int 3, effD e, y, .non] M = .ok .non M := by
  have m : ∀ {fl : EvL} {P : D → Mem → Prop} {E : Exn → Mem → Prop}, xO (eMeth "Effect" "removed" F_Effect_removed (eVar 1) fl [some (.int 3), some (effD e), some y, some .non, none] []) P E = xL (fl [some (.int 3), some (effD e), some y, some .non, none] []) (fun ds M2 => xO (callF F_Effect_removed (effD e :: ds) M2) P E) E := fun {fl P E} => by
    have := x_methE (M := []) (P := P) (E := E) (e := e) (F := F_Effect_removed) (fl := fun _ M => fl [some (.int 3), some (effD e), some y, some .non, none] M) (env := []) (m := "removed") (by decide)
    exact this
  refine callP_eq (pu4 rfl (pure_eff _) hy rfl) rfl ?_
  simp only [F_q_outcome_v6, c_q_outcome_v6, w_defn4, w_seq, w_try, List.replicate]
  simp only [c_q_outcome_v6_1, xO_ok, xO_ex, x_defn1, x_defn2, x_defn3, x_defn4, x_var0, x_varS, x_c, x_nil, x_cons, x_tup, x_lst, x_new, x_op, x_fn, x_fnN, x_call, x_make, x_cmt, x_not, x_and, x_or, x_if, x_seq, x_snil, x_asg, x_expr, x_ret, x_retN, x_raise, x_gN, x_sif, ifB_bl, notB_bl, w_gI, w_add, List.map, List.replicate, List.set, List.append, wipeE, decide_eq_true_eq, Bool.not_true, Bool.not_false, Bool.false_eq_true, if_true, if_false, Bool.not_eq_true, decide_eq_false_iff_not, Bool.true_eq_false, reduceIte, decide_true, decide_false, Nat.reduceSub, Nat.add_zero, x_eqI, m, h, show ((3 : Int) == 0) = false from rfl, show ((3 : Int) == 1) = false from rfl, show ((3 : Int) == 2) = false from rfl, show ((3 : Int) == 3) = true from rfl]
  simp only [c_q_outcome_v6_2, w_defn1, w_defn2, w_defn3, w_defn4, w_defn5, w_seq, w_snil, w_asg, w_expr, w_ret, w_retN, w_brk, w_cont, w_sif, ifB_bl, notB_bl, w_gN, w_par, w_par3, w_gsNil, w_gsCons, w_gT2, w_gT3, w_gTi2, w_var0, w_varS, w_c, w_nil, w_cons, w_tup, w_lst, w_new, w_newD, w_op, w_gI, w_add, w_chain, w_not, w_and, w_or, w_if, w_call, w_fn, w_fnN, w_make, w_neg, w_negI, w_t20, w_t21, w_t30, w_t31, w_t32, w_min2, w_max2, w_lenT, w_for, w_iA, wO_ok, w_cmt, List.map, List.replicate, List.set, List.append, wipeE, decide_eq_true_eq, Bool.not_true, Bool.not_false, Bool.false_eq_true, if_true, if_false, Bool.not_eq_true, decide_eq_false_iff_not, Bool.true_eq_false, reduceIte, decide_true, decide_false, Nat.reduceSub, Nat.add_zero]
theorem w_isBB {a b : Bool} : wO (gIsNot (.bl a) (.bl b) M) P = P (.bl (a != b)) M := by cases a <;> cases b <;> rfl
theorem valid1 (h : BadB x) (hy : pureD y = true) (hz : pureD z = true) : callF F_Effect_is_valid [x, y, z] M = .ok (.bl false) M := by
  refine callP_eq (pure_cons h.pu (pure_cons hy (pure_cons hz rfl))) rfl ?_
  simp only [F_Effect_is_valid, c_Effect_is_valid, w_defn1, w_defn2, w_defn3, w_defn4, w_defn5, w_seq, w_snil, w_asg, w_expr, w_ret, w_retN, w_brk, w_cont, w_sif, ifB_bl, notB_bl, w_gN, w_par, w_par3, w_gsNil, w_gsCons, w_gT2, w_gT3, w_gTi2, w_var0, w_varS, w_c, w_nil, w_cons, w_tup, w_lst, w_new, w_newD, w_op, w_gI, w_add, w_chain, w_not, w_and, w_or, w_if, w_call, w_fn, w_fnN, w_make, w_neg, w_negI, w_t20, w_t21, w_t30, w_t31, w_t32, w_min2, w_max2, w_lenT, w_for, w_iA, wO_ok, w_cmt, List.map, List.replicate, List.set, List.append, wipeE, decide_eq_true_eq, Bool.not_true, Bool.not_false, Bool.false_eq_true, if_true, if_false, Bool.not_eq_true, decide_eq_false_iff_not, Bool.true_eq_false, reduceIte, decide_true, decide_false, Nat.reduceSub, Nat.add_zero, h.e]
theorem valid3 (h : BadB z) : callF F_Effect_is_valid [.tup [], .int 5, z] M = .ok (.bl false) M := by
  refine callP_eq (pure_cons rfl (pure_cons rfl (pure_cons h.pu rfl))) rfl ?_
  have e1 : callF F_bags_is_bag [.tup []] [] = .ok (.bl true) [] := rfl
  have e2 : callF F_bags_is_count [.int 5] [] = .ok (.bl true) [] := rfl
  simp only [F_Effect_is_valid, c_Effect_is_valid, w_defn1, w_defn2, w_defn3, w_defn4, w_defn5, w_seq, w_snil, w_asg, w_expr, w_ret, w_retN, w_brk, w_cont, w_sif, ifB_bl, notB_bl, w_gN, w_par, w_par3, w_gsNil, w_gsCons, w_gT2, w_gT3, w_gTi2, w_var0, w_varS, w_c, w_nil, w_cons, w_tup, w_lst, w_new, w_newD, w_op, w_gI, w_add, w_chain, w_not, w_and, w_or, w_if, w_call, w_fn, w_fnN, w_make, w_neg, w_negI, w_t20, w_t21, w_t30, w_t31, w_t32, w_min2, w_max2, w_lenT, w_for, w_iA, wO_ok, w_cmt, List.map, List.replicate, List.set, List.append, wipeE, decide_eq_true_eq, Bool.not_true, Bool.not_false, Bool.false_eq_true, if_true, if_false, Bool.not_eq_true, decide_eq_false_iff_not, Bool.true_eq_false, reduceIte, decide_true, decide_false, Nat.reduceSub, Nat.add_zero, h.e, e1, e2]
theorem valid2 (h : BadC y) : callF F_Effect_is_valid [.tup [], y, .tup []] M = .ok (.bl false) M := by
  refine callP_eq (pure_cons rfl (pure_cons h.pu rfl)) rfl ?_
  have e1 : callF F_bags_is_bag [.tup []] [] = .ok (.bl true) [] := rfl
  simp only [F_Effect_is_valid, c_Effect_is_valid, w_defn1, w_defn2, w_defn3, w_defn4, w_defn5, w_seq, w_snil, w_asg, w_expr, w_ret, w_retN, w_brk, w_cont, w_sif, ifB_bl, notB_bl, w_gN, w_par, w_par3, w_gsNil, w_gsCons, w_gT2, w_gT3, w_gTi2, w_var0, w_varS, w_c, w_nil, w_cons, w_tup, w_lst, w_new, w_newD, w_op, w_gI, w_add, w_chain, w_not, w_and, w_or, w_if, w_call, w_fn, w_fnN, w_make, w_neg, w_negI, w_t20, w_t21, w_t30, w_t31, w_t32, w_min2, w_max2, w_lenT, w_for, w_iA, wO_ok, w_cmt, List.map, List.replicate, List.set, List.append, wipeE, decide_eq_true_eq, Bool.not_true, Bool.not_false, Bool.false_eq_true, if_true, if_false, Bool.not_eq_true, decide_eq_false_iff_not, Bool.true_eq_false, reduceIte, decide_true, decide_false, Nat.reduceSub, Nat.add_zero, h.e, e1]
/-! the odd values -/
theorem odd_bag {a : D} (h : a ∈ [D.non, .int 5, .lst [.tup [.int 1, .int 1]], .tup [.tup [.int 1, .int 0]], .tup [.tup [.bl true, .int 1]], .tup [.tup [.int 2, .int 1], .tup [.int 1, .int 1]], .str "", .dcv []]) : BadB a ∧ ∃ t, Txt a t := by
  simp only [List.mem_cons, List.mem_nil_iff, or_false] at h
  rcases h with rfl | rfl | rfl | rfl | rfl | rfl | rfl | rfl
  · exact ⟨⟨rfl, fun M => rfl⟩, _, txt_of (by decide +kernel) (by decide +kernel) (by decide +kernel)⟩
  · exact ⟨⟨rfl, fun M => rfl⟩, _, txt_of (by decide +kernel) (by decide +kernel) (by decide +kernel)⟩
  · exact ⟨⟨rfl, fun M => rfl⟩, _, txt_of (by decide +kernel) (by decide +kernel) (by decide +kernel)⟩
  · exact ⟨⟨rfl, fun M => rfl⟩, _, txt_of (by decide +kernel) (by decide +kernel) (by decide +kernel)⟩
  · exact ⟨⟨rfl, fun M => rfl⟩, _, txt_of (by decide +kernel) (by decide +kernel) (by decide +kernel)⟩
  · exact ⟨⟨rfl, fun M => rfl⟩, _, txt_of (by decide +kernel) (by decide +kernel) (by decide +kernel)⟩
  · exact ⟨⟨rfl, fun M => rfl⟩, _, txt_of (by decide +kernel) (by decide +kernel) (by decide +kernel)⟩
  · exact ⟨⟨rfl, fun M => rfl⟩, _, txt_dv⟩
theorem odd_cnt {a : D} (h : a ∈ [D.non, .int (-1), .bl true, .str "1", .tup [.int 1], .lst []]) : BadC a ∧ (∃ t, Txt a t) ∧ (a = .int (-1) ∨ BadN a ∧ ∀ {M : Mem} {P : D → Mem → Prop}, wO (gNe a (.int (-1)) M) P = P (.bl true) M) := by
  simp only [List.mem_cons, List.mem_nil_iff, or_false] at h
  rcases h with rfl | rfl | rfl | rfl | rfl | rfl
  · exact ⟨⟨rfl, fun M => rfl⟩, ⟨_, txt_of (by decide +kernel) (by decide +kernel) (by decide +kernel)⟩, .inr ⟨⟨rfl, fun M => rfl⟩, fun {M P} => w_ne (x := .non) (y := .int (-1)) (show shD (.non) = true by decide +kernel) (show shD (.int (-1)) = true by decide +kernel)⟩⟩
  · exact ⟨⟨rfl, fun M => rfl⟩, ⟨_, txt_of (by decide +kernel) (by decide +kernel) (by decide +kernel)⟩, .inl rfl⟩
  · exact ⟨⟨rfl, fun M => rfl⟩, ⟨_, txt_of (by decide +kernel) (by decide +kernel) (by decide +kernel)⟩, .inr ⟨⟨rfl, fun M => rfl⟩, fun {M P} => w_ne (x := .bl true) (y := .int (-1)) (show shD (.bl true) = true by decide +kernel) (show shD (.int (-1)) = true by decide +kernel)⟩⟩
  · exact ⟨⟨rfl, fun M => rfl⟩, ⟨_, txt_of (by decide +kernel) (by decide +kernel) (by decide +kernel)⟩, .inr ⟨⟨rfl, fun M => rfl⟩, fun {M P} => w_ne (x := .str "1") (y := .int (-1)) (show shD (.str "1") = true by decide +kernel) (show shD (.int (-1)) = true by decide +kernel)⟩⟩
  · exact ⟨⟨rfl, fun M => rfl⟩, ⟨_, txt_of (by decide +kernel) (by decide +kernel) (by decide +kernel)⟩, .inr ⟨⟨rfl, fun M => rfl⟩, fun {M P} => w_ne (x := .tup [.int 1]) (y := .int (-1)) (show shD (.tup [.int 1]) = true by decide +kernel) (show shD (.int (-1)) = true by decide +kernel)⟩⟩
  · exact ⟨⟨rfl, fun M => rfl⟩, ⟨_, txt_of (by decide +kernel) (by decide +kernel) (by decide +kernel)⟩, .inr ⟨⟨rfl, fun M => rfl⟩, fun {M P} => w_ne (x := .lst []) (y := .int (-1)) (show shD (.lst []) = true by decide +kernel) (show shD (.int (-1)) = true by decide +kernel)⟩⟩
theorem odd_prg {a : D} (h : a ∈ [D.non, .lst [.tup [.str "remove", .int 1]], .str "x", .int 5]) : BadP a (.tup []) := by
  simp only [List.mem_cons, List.mem_nil_iff, or_false] at h
  rcases h with rfl | rfl | rfl | rfl
  all_goals exact ⟨rfl, rfl, fun M => rfl⟩
theorem deep_prg : BadP (.tup [.tup [.str "remove", .int 1], .tup [.str "repeat", .int 2, .tup [.tup [.str "insert", .int 1]]]]) (.tup [.int 1, .int 0]) := ⟨rfl, rfl, fun M => by kernel_rfl⟩
theorem w_slU {xs : List D} {i : Int} {fa fi : Ev} {env : DL.Env} (h1 : fa env M = .ok (.tup xs) M) (h2 : fi env M = .ok (.int i) M) (h0 : 0 ≤ i) : wO (eSl fa oNone (oSome fi) env M) P = P (.tup (xs.take i.toNat)) M := by
  have e : cutD xs none (some i) = xs.take i.toNat := by
    unfold cutD
    have a : HT.sIx xs.length 0 none = 0 := rfl
    have b : HT.sIx xs.length xs.length (some i) = min i.toNat xs.length := by
      unfold HT.sIx
      simp only []
      rw [if_neg (by omega)]
    rw [a, b]
    (simp only [List.drop_zero, Nat.sub_zero])
    by_cases q : i.toNat ≤ xs.length
    · rw [Nat.min_eq_left q]
    · rw [Nat.min_eq_right (by omega), List.take_length, List.take_of_length_le (by omega)]
  have e3 : eSl fa oNone (oSome fi) env M = (oSome fi env M).bind fun h M1 => slD (.tup xs) .non h M1 := by unfold eSl; rw [h1]; rfl
  have e2 : eSl fa oNone (oSome fi) env M = .ok (.tup (xs.take i.toNat)) M := by
    rw [e3]
    unfold oSome
    rw [h2]
    show slD (.tup xs) .non (.int i) M = _
    rw [← e]
    rfl
  rw [e2]; rfl
theorem w_dv {env : DL.Env} : wO (eDv env M) P = P (.dcv []) M := rfl
theorem w_p60 : wO (gPowI (.int 10) (.int 60) M) P = P (.int 1000000000000000000000000000000000000000000000000000000000000) M := by
  rw [w_pow (by decide)]; rfl
end
theorem doors_part {M : Mem} {W : Wi} {e : Ef} {B : Int} {x0 x1 x2 x4 x5 : Option D} (ok : Em e B) (hW : ∀ y1 y2 y4 y5, W.nx [x0, y1, y2, some (effD e), y4, y5] M) : wS (c_law_12 [x0, x1, x2, some (effD e), x4, x5] M) W := by
  simp only [c_law_12, w_defn1, w_defn2, w_defn3, w_defn4, w_defn5, w_seq, w_snil, w_asg, w_expr, w_ret, w_retN, w_brk, w_cont, w_sif, ifB_bl, notB_bl, w_gN, w_par, w_par3, w_gsNil, w_gsCons, w_gT2, w_gT3, w_gTi2, w_var0, w_varS, w_c, w_nil, w_cons, w_tup, w_lst, w_new, w_newD, w_op, w_gI, w_add, w_chain, w_not, w_and, w_or, w_if, w_call, w_fn, w_fnN, w_make, w_neg, w_negI, w_t20, w_t21, w_t30, w_t31, w_t32, w_min2, w_max2, w_lenT, w_for, w_iA, wO_ok, w_cmt, List.map, List.replicate, List.set, List.append, wipeE, decide_eq_true_eq, Bool.not_true, Bool.not_false, Bool.false_eq_true, if_true, if_false, Bool.not_eq_true, decide_eq_false_iff_not, Bool.true_eq_false, reduceIte, decide_true, decide_false, Nat.reduceSub, Nat.add_zero, w_prop, w_propE (e_needed ok), decide_eq_true_eq]
  split
  · rename_i hn
    have hn : 0 < e.need := hn
    simp only [w_defn1, w_defn2, w_defn3, w_defn4, w_defn5, w_seq, w_snil, w_asg, w_expr, w_ret, w_retN, w_brk, w_cont, w_sif, ifB_bl, notB_bl, w_gN, w_par, w_par3, w_gsNil, w_gsCons, w_gT2, w_gT3, w_gTi2, w_var0, w_varS, w_c, w_nil, w_cons, w_tup, w_lst, w_new, w_newD, w_op, w_gI, w_add, w_chain, w_not, w_and, w_or, w_if, w_call, w_fn, w_fnN, w_make, w_neg, w_negI, w_t20, w_t21, w_t30, w_t31, w_t32, w_min2, w_max2, w_lenT, w_for, w_iA, wO_ok, w_cmt, List.map, List.replicate, List.set, List.append, wipeE, decide_eq_true_eq, Bool.not_true, Bool.not_false, Bool.false_eq_true, if_true, if_false, Bool.not_eq_true, decide_eq_false_iff_not, Bool.true_eq_false, reduceIte, decide_true, decide_false, Nat.reduceSub, Nat.add_zero, w_iA, HL.w_itT]
    refine w_forD (fun i e' M' => e' = [x0, none, none, some (effD e), none, none] ∧ M' = M) ⟨rfl, rfl⟩ (fun _ _ _ _ => rfl) ?_ ?_
    · rintro j d e' M' hd ⟨rfl, rfl⟩
      have hd2 := List.mem_of_getElem? hd
      clear hd
      obtain ⟨b, hb⟩ : ∃ b : Bag, b = [((1 : Int), e.need - 1)].take (e.need - 1).toNat := ⟨_, rfl⟩
      have near1 : ∀ n : Int, Near 1 := fun _ => near_small (by omega) (by omega)
      have vb : Val b ∧ KeyB b ∧ tot b = e.need - 1 := by
        by_cases q : e.need - 1 = 0
        · have : b = [] := by rw [hb, q]; rfl
          rw [this, q]
          exact ⟨val_nil, fun p hp => by (cases hp), rfl⟩
        · have : b = [(1, e.need - 1)] := by rw [hb]; exact List.take_of_length_le (by show 1 ≤ _; omega)
          rw [this]
          refine ⟨val_one 1 (by omega), fun p hp => ?_, by show e.need - 1 + 0 = _; omega⟩
          (obtain rfl := List.mem_singleton.mp hp)
          exact near1 1
      have vc : Val [((1 : Int), e.need)] := val_one 1 (by omega)
      have kc : KeyB [((1 : Int), e.need)] := fun p hp => by
        (obtain rfl := List.mem_singleton.mp hp)
        exact near1 1
      have tc : e.need ≤ tot [((1 : Int), e.need)] := by show e.need ≤ e.need + 0; omega
      have bD : D.tup ([D.tup [.int 1, .int (e.need - 1)]].take (e.need - 1).toNat) = bagD b := by rw [hb]; unfold bagD; rw [List.map_take]; rfl
      have cD : D.tup [.tup [.int 1, .int e.need]] = bagD [(1, e.need)] := rfl
      have lt : tot b < e.need := by rw [vb.2.2]; omega
      have a2 := fun M => o_emp (M := M) (k := 2) (x := effD e) (y := bagD b) (z := .non) (pure_eff _) (pb _) rfl (rs2 (e_applyX ok vb.1 vb.2.1 lt))
      have a3 := fun M => o_emp (M := M) (k := 3) (x := effD e) (y := bagD b) (z := .non) (pure_eff _) (pb _) rfl (rs3 (removedX ok vb.1 vb.2.1 lt))
      have c2 := fun M => o_ok2 (M := M) (pb _) (e_apply ok vc kc tc)
      have c3 := fun M => o_ok3 (M := M) (pb _) (e_removed ok vc kc tc)
      have ne : ∀ {M : Mem} {P : D → Mem → Prop}, wO (gNe (.lst [.str "empty", .non]) (.lst [.str "empty", .non]) M) P = P (.bl false) M := fun {M P} => w_neSame (by decide +kernel)
      have nn : ∀ {M : Mem} {P : D → Mem → Prop}, wO (gIsNot .non .non M) P = P (.bl false) M := fun {M P} => rfl
      have sl : ∀ {d5 : D} {P : D → Mem → Prop}, wO (eSl (eTup (aCons (eTup (aCons (eC (.int 1)) (aCons (eOp gSubI (eProp "Effect" F_Effect_needed (eVar 3)) (eC (.int 1))) aNil))) aNil)) oNone (oSome (eOp gSubI (eProp "Effect" F_Effect_needed (eVar 3)) (eC (.int 1)))) [x0, none, none, some (effD e), none, some d5] M') P = P (bagD b) M' := fun {d5 P} => by
        rw [← bD]
        refine w_slU (ok_of_w fun P => ?_) (ok_of_w fun P => ?_) (by omega)
        · simp only [w_defn1, w_defn2, w_defn3, w_defn4, w_defn5, w_seq, w_snil, w_asg, w_expr, w_ret, w_retN, w_brk, w_cont, w_sif, ifB_bl, notB_bl, w_gN, w_par, w_par3, w_gsNil, w_gsCons, w_gT2, w_gT3, w_gTi2, w_var0, w_varS, w_c, w_nil, w_cons, w_tup, w_lst, w_new, w_newD, w_op, w_gI, w_add, w_chain, w_not, w_and, w_or, w_if, w_call, w_fn, w_fnN, w_make, w_neg, w_negI, w_t20, w_t21, w_t30, w_t31, w_t32, w_min2, w_max2, w_lenT, w_for, w_iA, wO_ok, w_cmt, List.map, List.replicate, List.set, List.append, wipeE, decide_eq_true_eq, Bool.not_true, Bool.not_false, Bool.false_eq_true, if_true, if_false, Bool.not_eq_true, decide_eq_false_iff_not, Bool.true_eq_false, reduceIte, decide_true, decide_false, Nat.reduceSub, Nat.add_zero, w_prop, w_propE (e_needed ok)]
        · simp only [w_defn1, w_defn2, w_defn3, w_defn4, w_defn5, w_seq, w_snil, w_asg, w_expr, w_ret, w_retN, w_brk, w_cont, w_sif, ifB_bl, notB_bl, w_gN, w_par, w_par3, w_gsNil, w_gsCons, w_gT2, w_gT3, w_gTi2, w_var0, w_varS, w_c, w_nil, w_cons, w_tup, w_lst, w_new, w_newD, w_op, w_gI, w_add, w_chain, w_not, w_and, w_or, w_if, w_call, w_fn, w_fnN, w_make, w_neg, w_negI, w_t20, w_t21, w_t30, w_t31, w_t32, w_min2, w_max2, w_lenT, w_for, w_iA, wO_ok, w_cmt, List.map, List.replicate, List.set, List.append, wipeE, decide_eq_true_eq, Bool.not_true, Bool.not_false, Bool.false_eq_true, if_true, if_false, Bool.not_eq_true, decide_eq_false_iff_not, Bool.true_eq_false, reduceIte, decide_true, decide_false, Nat.reduceSub, Nat.add_zero, w_prop, w_propE (e_needed ok)]
      simp only [List.mem_cons, List.mem_nil_iff, or_false] at hd2
      rcases hd2 with rfl | rfl
      · simp only [w_gN, List.set, c_law_11, w_defn1, w_defn2, w_defn3, w_defn4, w_defn5, w_seq, w_snil, w_asg, w_expr, w_ret, w_retN, w_brk, w_cont, w_sif, ifB_bl, notB_bl, w_gN, w_par, w_par3, w_gsNil, w_gsCons, w_gT2, w_gT3, w_gTi2, w_var0, w_varS, w_c, w_nil, w_cons, w_tup, w_lst, w_new, w_newD, w_op, w_gI, w_add, w_chain, w_not, w_and, w_or, w_if, w_call, w_fn, w_fnN, w_make, w_neg, w_negI, w_t20, w_t21, w_t30, w_t31, w_t32, w_min2, w_max2, w_lenT, w_for, w_iA, wO_ok, w_cmt, List.map, List.replicate, List.set, List.append, wipeE, decide_eq_true_eq, Bool.not_true, Bool.not_false, Bool.false_eq_true, if_true, if_false, Bool.not_eq_true, decide_eq_false_iff_not, Bool.true_eq_false, reduceIte, decide_true, decide_false, Nat.reduceSub, Nat.add_zero, sl, a2, ne]
        simp only [c_law_10, w_defn1, w_defn2, w_defn3, w_defn4, w_defn5, w_seq, w_snil, w_asg, w_expr, w_ret, w_retN, w_brk, w_cont, w_sif, ifB_bl, notB_bl, w_gN, w_par, w_par3, w_gsNil, w_gsCons, w_gT2, w_gT3, w_gTi2, w_var0, w_varS, w_c, w_nil, w_cons, w_tup, w_lst, w_new, w_newD, w_op, w_gI, w_add, w_chain, w_not, w_and, w_or, w_if, w_call, w_fn, w_fnN, w_make, w_neg, w_negI, w_t20, w_t21, w_t30, w_t31, w_t32, w_min2, w_max2, w_lenT, w_for, w_iA, wO_ok, w_cmt, List.map, List.replicate, List.set, List.append, wipeE, decide_eq_true_eq, Bool.not_true, Bool.not_false, Bool.false_eq_true, if_true, if_false, Bool.not_eq_true, decide_eq_false_iff_not, Bool.true_eq_false, reduceIte, decide_true, decide_false, Nat.reduceSub, Nat.add_zero, w_prop, w_propE (e_needed ok), cD, c2, nn]
        exact ⟨by trivial, by trivial⟩
      · simp only [w_gN, List.set, c_law_11, w_defn1, w_defn2, w_defn3, w_defn4, w_defn5, w_seq, w_snil, w_asg, w_expr, w_ret, w_retN, w_brk, w_cont, w_sif, ifB_bl, notB_bl, w_gN, w_par, w_par3, w_gsNil, w_gsCons, w_gT2, w_gT3, w_gTi2, w_var0, w_varS, w_c, w_nil, w_cons, w_tup, w_lst, w_new, w_newD, w_op, w_gI, w_add, w_chain, w_not, w_and, w_or, w_if, w_call, w_fn, w_fnN, w_make, w_neg, w_negI, w_t20, w_t21, w_t30, w_t31, w_t32, w_min2, w_max2, w_lenT, w_for, w_iA, wO_ok, w_cmt, List.map, List.replicate, List.set, List.append, wipeE, decide_eq_true_eq, Bool.not_true, Bool.not_false, Bool.false_eq_true, if_true, if_false, Bool.not_eq_true, decide_eq_false_iff_not, Bool.true_eq_false, reduceIte, decide_true, decide_false, Nat.reduceSub, Nat.add_zero, sl, a3, ne]
        simp only [c_law_10, w_defn1, w_defn2, w_defn3, w_defn4, w_defn5, w_seq, w_snil, w_asg, w_expr, w_ret, w_retN, w_brk, w_cont, w_sif, ifB_bl, notB_bl, w_gN, w_par, w_par3, w_gsNil, w_gsCons, w_gT2, w_gT3, w_gTi2, w_var0, w_varS, w_c, w_nil, w_cons, w_tup, w_lst, w_new, w_newD, w_op, w_gI, w_add, w_chain, w_not, w_and, w_or, w_if, w_call, w_fn, w_fnN, w_make, w_neg, w_negI, w_t20, w_t21, w_t30, w_t31, w_t32, w_min2, w_max2, w_lenT, w_for, w_iA, wO_ok, w_cmt, List.map, List.replicate, List.set, List.append, wipeE, decide_eq_true_eq, Bool.not_true, Bool.not_false, Bool.false_eq_true, if_true, if_false, Bool.not_eq_true, decide_eq_false_iff_not, Bool.true_eq_false, reduceIte, decide_true, decide_false, Nat.reduceSub, Nat.add_zero, w_prop, w_propE (e_needed ok), cD, c3, nn]
        exact ⟨by trivial, by trivial⟩
    · rintro e' M' ⟨rfl, rfl⟩
      exact hW _ _ _ _
  · exact hW _ _ _ _
theorem law_true (ns : List Int) (h : ns.length ≤ 63) : ∃ M, F_law [.fzl (ns.map .int)] [] = .ok (.bl true) M := by
  have key : wO (F_law [.fzl (ns.map .int)] []) fun d _ => d = .bl true := by
    simp only [F_law, c_law, w_defn1, w_defn2, w_defn3, w_defn4, w_defn5, w_seq, w_snil, w_asg, w_expr, w_ret, w_retN, w_brk, w_cont, w_sif, ifB_bl, notB_bl, w_gN, w_par, w_par3, w_gsNil, w_gsCons, w_gT2, w_gT3, w_gTi2, w_var0, w_varS, w_c, w_nil, w_cons, w_tup, w_lst, w_new, w_newD, w_op, w_gI, w_add, w_chain, w_not, w_and, w_or, w_if, w_call, w_fn, w_fnN, w_make, w_neg, w_negI, w_t20, w_t21, w_t30, w_t31, w_t32, w_min2, w_max2, w_lenT, w_for, w_iA, wO_ok, w_cmt, List.map, List.replicate, List.set, List.append, wipeE, decide_eq_true_eq, Bool.not_true, Bool.not_false, Bool.false_eq_true, if_true, if_false, Bool.not_eq_true, decide_eq_false_iff_not, Bool.true_eq_false, reduceIte, decide_true, decide_false, Nat.reduceSub, Nat.add_zero]
    simp only [w_iR1, w_defn1, w_defn2, w_defn3, w_defn4, w_defn5, w_seq, w_snil, w_asg, w_expr, w_ret, w_retN, w_brk, w_cont, w_sif, ifB_bl, notB_bl, w_gN, w_par, w_par3, w_gsNil, w_gsCons, w_gT2, w_gT3, w_gTi2, w_var0, w_varS, w_c, w_nil, w_cons, w_tup, w_lst, w_new, w_newD, w_op, w_gI, w_add, w_chain, w_not, w_and, w_or, w_if, w_call, w_fn, w_fnN, w_make, w_neg, w_negI, w_t20, w_t21, w_t30, w_t31, w_t32, w_min2, w_max2, w_lenT, w_for, w_iA, wO_ok, w_cmt, List.map, List.replicate, List.set, List.append, wipeE, decide_eq_true_eq, Bool.not_true, Bool.not_false, Bool.false_eq_true, if_true, if_false, Bool.not_eq_true, decide_eq_false_iff_not, Bool.true_eq_false, reduceIte, decide_true, decide_false, Nat.reduceSub, Nat.add_zero, w_lenF, w_r1I, List.length_map]
    obtain ⟨t1, t2⟩ := turns ns.length 6 h (by omega) (by omega)
    refine ⟨t1, ?_⟩
    generalize hs : D.fzl (ns.map .int) = s
    refine w_forD (fun i e M => e = [some s, none, none, none, none, none] ∧ M.all pureOb = true) ⟨rfl, rfl⟩ (fun _ _ _ _ => rfl) ?_ ?_
    · rintro i d e M hd ⟨rfl, hM⟩
      obtain ⟨hi, rfl⟩ := range_at hd
      simp only [c_law_18, w_defn1, w_defn2, w_defn3, w_defn4, w_defn5, w_seq, w_snil, w_asg, w_expr, w_ret, w_retN, w_brk, w_cont, w_sif, ifB_bl, notB_bl, w_gN, w_par, w_par3, w_gsNil, w_gsCons, w_gT2, w_gT3, w_gTi2, w_var0, w_varS, w_c, w_nil, w_cons, w_tup, w_lst, w_new, w_newD, w_op, w_gI, w_add, w_chain, w_not, w_and, w_or, w_if, w_call, w_fn, w_fnN, w_make, w_neg, w_negI, w_t20, w_t21, w_t30, w_t31, w_t32, w_min2, w_max2, w_lenT, w_for, w_iA, wO_ok, w_cmt, List.map, List.replicate, List.set, List.append, wipeE, decide_eq_true_eq, Bool.not_true, Bool.not_false, Bool.false_eq_true, if_true, if_false, Bool.not_eq_true, decide_eq_false_iff_not, Bool.true_eq_false, reduceIte, decide_true, decide_false, Nat.reduceSub, Nat.add_zero]
      rw [← hs]
      refine sp_pool_ (k := 0 + (i : Int)) (by omega) (by omega) fun a0 a1 ha => ?_
      rw [hs]
      have st0 : StP M.length (M ++ [.lst [.int a0, .int a1]]) := ⟨⟨a0, a1, ha, List.getElem?_concat_length⟩, by rw [List.all_append, hM]; rfl⟩
      simp only [c_law_17, w_defn1, w_defn2, w_defn3, w_defn4, w_defn5, w_seq, w_snil, w_asg, w_expr, w_ret, w_retN, w_brk, w_cont, w_sif, ifB_bl, notB_bl, w_gN, w_par, w_par3, w_gsNil, w_gsCons, w_gT2, w_gT3, w_gTi2, w_var0, w_varS, w_c, w_nil, w_cons, w_tup, w_lst, w_new, w_newD, w_op, w_gI, w_add, w_chain, w_not, w_and, w_or, w_if, w_call, w_fn, w_fnN, w_make, w_neg, w_negI, w_t20, w_t21, w_t30, w_t31, w_t32, w_min2, w_max2, w_lenT, w_for, w_iA, wO_ok, w_cmt, List.map, List.replicate, List.set, List.append, wipeE, decide_eq_true_eq, Bool.not_true, Bool.not_false, Bool.false_eq_true, if_true, if_false, Bool.not_eq_true, decide_eq_false_iff_not, Bool.true_eq_false, reduceIte, decide_true, decide_false, Nat.reduceSub, Nat.add_zero]
      refine sp_great st0 fun e M1 ok n1 => ?_
      have pM := n1.1.2
      have vI := ok.ok.vi
      have zI : e.I.length ≤ 4000000 := by have := ok.li; omega
      try simp only [w_defn1, w_defn2, w_defn3, w_defn4, w_defn5, w_seq, w_snil, w_asg, w_expr, w_ret, w_retN, w_brk, w_cont, w_sif, ifB_bl, notB_bl, w_gN, w_par, w_par3, w_gsNil, w_gsCons, w_gT2, w_gT3, w_gTi2, w_var0, w_varS, w_c, w_nil, w_cons, w_tup, w_lst, w_new, w_newD, w_op, w_gI, w_add, w_chain, w_not, w_and, w_or, w_if, w_call, w_fn, w_fnN, w_make, w_neg, w_negI, w_t20, w_t21, w_t30, w_t31, w_t32, w_min2, w_max2, w_lenT, w_for, w_iA, wO_ok, w_cmt, List.map, List.replicate, List.set, List.append, wipeE, decide_eq_true_eq, Bool.not_true, Bool.not_false, Bool.false_eq_true, if_true, if_false, Bool.not_eq_true, decide_eq_false_iff_not, Bool.true_eq_false, reduceIte, decide_true, decide_false, Nat.reduceSub, Nat.add_zero]
      simp only [c_law_16, w_defn1, w_defn2, w_defn3, w_defn4, w_defn5, w_seq, w_snil, w_asg, w_expr, w_ret, w_retN, w_brk, w_cont, w_sif, ifB_bl, notB_bl, w_gN, w_par, w_par3, w_gsNil, w_gsCons, w_gT2, w_gT3, w_gTi2, w_var0, w_varS, w_c, w_nil, w_cons, w_tup, w_lst, w_new, w_newD, w_op, w_gI, w_add, w_chain, w_not, w_and, w_or, w_if, w_call, w_fn, w_fnN, w_make, w_neg, w_negI, w_t20, w_t21, w_t30, w_t31, w_t32, w_min2, w_max2, w_lenT, w_for, w_iA, wO_ok, w_cmt, List.map, List.replicate, List.set, List.append, wipeE, decide_eq_true_eq, Bool.not_true, Bool.not_false, Bool.false_eq_true, if_true, if_false, Bool.not_eq_true, decide_eq_false_iff_not, Bool.true_eq_false, reduceIte, decide_true, decide_false, Nat.reduceSub, Nat.add_zero, w_iA, w_negI, w_dv, w_itL]
      refine w_forD (fun i e' M' => e' = [some s, none, none, some (effD e), none, none] ∧ M1 = M') ⟨rfl, rfl⟩ (fun _ _ _ _ => rfl) ?_ ?_
      · rintro j d e' M' hd ⟨rfl, rfl⟩
        obtain ⟨bb, t, tx⟩ := odd_bag (List.mem_of_getElem? hd)
        have rx := fun M => tx.1 M
        have pd := bb.pu
        have nb : ∀ {M : Mem} {P : D → Mem → Prop}, wO (gNe (.lst [.str "bag", .str t]) (.lst [.str "bag", .str t]) M) P = P (.bl false) M := fun {M P} => w_neSame (sh_two (by decide +kernel) tx.2)
        have o1 := fun M => o_bag (M := M) (k := 0) (x := d) (y := .non) (z := .non) pd rfl rfl (rs0 (mk1 bb rfl rfl)) tx
        have o2 := fun M => o_bag (M := M) (k := 0) (x := bagD e.I) (y := .int 1000000000000000000000000000000000000000000000000000000000000) (z := d) (pb _) rfl pd (rs0 (mk3 vI zI (by decide) bb)) tx
        have o3 := fun M => o_bag (M := M) (k := 2) (x := effD e) (y := d) (z := .non) (pure_eff _) pd rfl (rs2 (apply1 bb)) tx
        have o4 := fun M => o_bag (M := M) (k := 3) (x := effD e) (y := d) (z := .non) (pure_eff _) pd rfl (rs3 (removed1 bb)) tx
        have v1 := fun M => valid1 (M := M) (y := .int 5) (z := .tup []) bb rfl rfl
        have v3 := fun M => valid3 (M := M) bb
        clear hd
        simp only [w_defn1, w_defn2, w_defn3, w_defn4, w_defn5, w_seq, w_snil, w_asg, w_expr, w_ret, w_retN, w_brk, w_cont, w_sif, ifB_bl, notB_bl, w_gN, w_par, w_par3, w_gsNil, w_gsCons, w_gT2, w_gT3, w_gTi2, w_var0, w_varS, w_c, w_nil, w_cons, w_tup, w_lst, w_new, w_newD, w_op, w_gI, w_add, w_chain, w_not, w_and, w_or, w_if, w_call, w_fn, w_fnN, w_make, w_neg, w_negI, w_t20, w_t21, w_t30, w_t31, w_t32, w_min2, w_max2, w_lenT, w_for, w_iA, wO_ok, w_cmt, List.map, List.replicate, List.set, List.append, wipeE, decide_eq_true_eq, Bool.not_true, Bool.not_false, Bool.false_eq_true, if_true, if_false, Bool.not_eq_true, decide_eq_false_iff_not, Bool.true_eq_false, reduceIte, decide_true, decide_false, Nat.reduceSub, Nat.add_zero]
        simp only [c_law_5, w_defn1, w_defn2, w_defn3, w_defn4, w_defn5, w_seq, w_snil, w_asg, w_expr, w_ret, w_retN, w_brk, w_cont, w_sif, ifB_bl, notB_bl, w_gN, w_par, w_par3, w_gsNil, w_gsCons, w_gT2, w_gT3, w_gTi2, w_var0, w_varS, w_c, w_nil, w_cons, w_tup, w_lst, w_new, w_newD, w_op, w_gI, w_add, w_chain, w_not, w_and, w_or, w_if, w_call, w_fn, w_fnN, w_make, w_neg, w_negI, w_t20, w_t21, w_t30, w_t31, w_t32, w_min2, w_max2, w_lenT, w_for, w_iA, wO_ok, w_cmt, List.map, List.replicate, List.set, List.append, wipeE, decide_eq_true_eq, Bool.not_true, Bool.not_false, Bool.false_eq_true, if_true, if_false, Bool.not_eq_true, decide_eq_false_iff_not, Bool.true_eq_false, reduceIte, decide_true, decide_false, Nat.reduceSub, Nat.add_zero, o1, rx, nb]
        simp only [c_law_4, w_defn1, w_defn2, w_defn3, w_defn4, w_defn5, w_seq, w_snil, w_asg, w_expr, w_ret, w_retN, w_brk, w_cont, w_sif, ifB_bl, notB_bl, w_gN, w_par, w_par3, w_gsNil, w_gsCons, w_gT2, w_gT3, w_gTi2, w_var0, w_varS, w_c, w_nil, w_cons, w_tup, w_lst, w_new, w_newD, w_op, w_gI, w_add, w_chain, w_not, w_and, w_or, w_if, w_call, w_fn, w_fnN, w_make, w_neg, w_negI, w_t20, w_t21, w_t30, w_t31, w_t32, w_min2, w_max2, w_lenT, w_for, w_iA, wO_ok, w_cmt, List.map, List.replicate, List.set, List.append, wipeE, decide_eq_true_eq, Bool.not_true, Bool.not_false, Bool.false_eq_true, if_true, if_false, Bool.not_eq_true, decide_eq_false_iff_not, Bool.true_eq_false, reduceIte, decide_true, decide_false, Nat.reduceSub, Nat.add_zero, w_prop, w_propE e_inserted, w_p60, o2, rx, nb]
        simp only [c_law_3, w_defn1, w_defn2, w_defn3, w_defn4, w_defn5, w_seq, w_snil, w_asg, w_expr, w_ret, w_retN, w_brk, w_cont, w_sif, ifB_bl, notB_bl, w_gN, w_par, w_par3, w_gsNil, w_gsCons, w_gT2, w_gT3, w_gTi2, w_var0, w_varS, w_c, w_nil, w_cons, w_tup, w_lst, w_new, w_newD, w_op, w_gI, w_add, w_chain, w_not, w_and, w_or, w_if, w_call, w_fn, w_fnN, w_make, w_neg, w_negI, w_t20, w_t21, w_t30, w_t31, w_t32, w_min2, w_max2, w_lenT, w_for, w_iA, wO_ok, w_cmt, List.map, List.replicate, List.set, List.append, wipeE, decide_eq_true_eq, Bool.not_true, Bool.not_false, Bool.false_eq_true, if_true, if_false, Bool.not_eq_true, decide_eq_false_iff_not, Bool.true_eq_false, reduceIte, decide_true, decide_false, Nat.reduceSub, Nat.add_zero, v1, v3, w_isBB, bne_self_eq_false]
        simp only [c_law_2, w_defn1, w_defn2, w_defn3, w_defn4, w_defn5, w_seq, w_snil, w_asg, w_expr, w_ret, w_retN, w_brk, w_cont, w_sif, ifB_bl, notB_bl, w_gN, w_par, w_par3, w_gsNil, w_gsCons, w_gT2, w_gT3, w_gTi2, w_var0, w_varS, w_c, w_nil, w_cons, w_tup, w_lst, w_new, w_newD, w_op, w_gI, w_add, w_chain, w_not, w_and, w_or, w_if, w_call, w_fn, w_fnN, w_make, w_neg, w_negI, w_t20, w_t21, w_t30, w_t31, w_t32, w_min2, w_max2, w_lenT, w_for, w_iA, wO_ok, w_cmt, List.map, List.replicate, List.set, List.append, wipeE, decide_eq_true_eq, Bool.not_true, Bool.not_false, Bool.false_eq_true, if_true, if_false, Bool.not_eq_true, decide_eq_false_iff_not, Bool.true_eq_false, reduceIte, decide_true, decide_false, Nat.reduceSub, Nat.add_zero, w_iA, HL.w_itT]
        refine w_forD (fun i e' M' => e' = [some s, none, none, some (effD e), some d, none] ∧ M1 = M') ⟨rfl, rfl⟩ (fun _ _ _ _ => rfl) ?_ ?_
        · rintro j2 d2 e' M' hd ⟨rfl, rfl⟩
          have hd2 := List.mem_of_getElem? hd
          clear hd
          simp only [List.mem_cons, List.mem_nil_iff, or_false] at hd2
          rcases hd2 with rfl | rfl
          · simp only [c_law_1, w_defn1, w_defn2, w_defn3, w_defn4, w_defn5, w_seq, w_snil, w_asg, w_expr, w_ret, w_retN, w_brk, w_cont, w_sif, ifB_bl, notB_bl, w_gN, w_par, w_par3, w_gsNil, w_gsCons, w_gT2, w_gT3, w_gTi2, w_var0, w_varS, w_c, w_nil, w_cons, w_tup, w_lst, w_new, w_newD, w_op, w_gI, w_add, w_chain, w_not, w_and, w_or, w_if, w_call, w_fn, w_fnN, w_make, w_neg, w_negI, w_t20, w_t21, w_t30, w_t31, w_t32, w_min2, w_max2, w_lenT, w_for, w_iA, wO_ok, w_cmt, List.map, List.replicate, List.set, List.append, wipeE, decide_eq_true_eq, Bool.not_true, Bool.not_false, Bool.false_eq_true, if_true, if_false, Bool.not_eq_true, decide_eq_false_iff_not, Bool.true_eq_false, reduceIte, decide_true, decide_false, Nat.reduceSub, Nat.add_zero, o3, rx, nb]
            exact ⟨by trivial, by trivial⟩
          · simp only [c_law_1, w_defn1, w_defn2, w_defn3, w_defn4, w_defn5, w_seq, w_snil, w_asg, w_expr, w_ret, w_retN, w_brk, w_cont, w_sif, ifB_bl, notB_bl, w_gN, w_par, w_par3, w_gsNil, w_gsCons, w_gT2, w_gT3, w_gTi2, w_var0, w_varS, w_c, w_nil, w_cons, w_tup, w_lst, w_new, w_newD, w_op, w_gI, w_add, w_chain, w_not, w_and, w_or, w_if, w_call, w_fn, w_fnN, w_make, w_neg, w_negI, w_t20, w_t21, w_t30, w_t31, w_t32, w_min2, w_max2, w_lenT, w_for, w_iA, wO_ok, w_cmt, List.map, List.replicate, List.set, List.append, wipeE, decide_eq_true_eq, Bool.not_true, Bool.not_false, Bool.false_eq_true, if_true, if_false, Bool.not_eq_true, decide_eq_false_iff_not, Bool.true_eq_false, reduceIte, decide_true, decide_false, Nat.reduceSub, Nat.add_zero, o4, rx, nb]
            exact ⟨by trivial, by trivial⟩
        · rintro e' M' ⟨rfl, rfl⟩
          exact ⟨rfl, rfl⟩
      · rintro e' M' ⟨rfl, rfl⟩
        simp only [c_law_15, w_defn1, w_defn2, w_defn3, w_defn4, w_defn5, w_seq, w_snil, w_asg, w_expr, w_ret, w_retN, w_brk, w_cont, w_sif, ifB_bl, notB_bl, w_gN, w_par, w_par3, w_gsNil, w_gsCons, w_gT2, w_gT3, w_gTi2, w_var0, w_varS, w_c, w_nil, w_cons, w_tup, w_lst, w_new, w_newD, w_op, w_gI, w_add, w_chain, w_not, w_and, w_or, w_if, w_call, w_fn, w_fnN, w_make, w_neg, w_negI, w_t20, w_t21, w_t30, w_t31, w_t32, w_min2, w_max2, w_lenT, w_for, w_iA, wO_ok, w_cmt, List.map, List.replicate, List.set, List.append, wipeE, decide_eq_true_eq, Bool.not_true, Bool.not_false, Bool.false_eq_true, if_true, if_false, Bool.not_eq_true, decide_eq_false_iff_not, Bool.true_eq_false, reduceIte, decide_true, decide_false, Nat.reduceSub, Nat.add_zero, w_iA, w_negI, w_itL]
        refine w_forD (fun i e' M' => e' = [some s, none, none, some (effD e), none, none] ∧ M1 = M') ⟨rfl, rfl⟩ (fun _ _ _ _ => rfl) ?_ ?_
        · rintro j d e' M' hd ⟨rfl, rfl⟩
          obtain ⟨bc, ⟨t, tx⟩, alt⟩ := odd_cnt (List.mem_of_getElem? hd)
          clear hd
          have rx := fun M => tx.1 M
          have pd := bc.pu
          have nc : ∀ {M : Mem} {P : D → Mem → Prop}, wO (gNe (.lst [.str "count", .str t]) (.lst [.str "count", .str t]) M) P = P (.bl false) M := fun {M P} => w_neSame (sh_two (by decide +kernel) tx.2)
          have nn : ∀ {M : Mem} {P : D → Mem → Prop}, wO (gNe (.lst [.str "number", .str t]) (.lst [.str "number", .str t]) M) P = P (.bl false) M := fun {M P} => w_neSame (sh_two (by decide +kernel) tx.2)
          have o1 := fun M => o_count (M := M) (k := 0) (x := bagD e.I) (y := d) (z := .non) (pb _) pd rfl (rs0 (mk2 vI zI bc rfl)) tx
          have v2 := fun M => valid2 (M := M) bc
          simp only [w_defn1, w_defn2, w_defn3, w_defn4, w_defn5, w_seq, w_snil, w_asg, w_expr, w_ret, w_retN, w_brk, w_cont, w_sif, ifB_bl, notB_bl, w_gN, w_par, w_par3, w_gsNil, w_gsCons, w_gT2, w_gT3, w_gTi2, w_var0, w_varS, w_c, w_nil, w_cons, w_tup, w_lst, w_new, w_newD, w_op, w_gI, w_add, w_chain, w_not, w_and, w_or, w_if, w_call, w_fn, w_fnN, w_make, w_neg, w_negI, w_t20, w_t21, w_t30, w_t31, w_t32, w_min2, w_max2, w_lenT, w_for, w_iA, wO_ok, w_cmt, List.map, List.replicate, List.set, List.append, wipeE, decide_eq_true_eq, Bool.not_true, Bool.not_false, Bool.false_eq_true, if_true, if_false, Bool.not_eq_true, decide_eq_false_iff_not, Bool.true_eq_false, reduceIte, decide_true, decide_false, Nat.reduceSub, Nat.add_zero]
          simp only [c_law_8, w_defn1, w_defn2, w_defn3, w_defn4, w_defn5, w_seq, w_snil, w_asg, w_expr, w_ret, w_retN, w_brk, w_cont, w_sif, ifB_bl, notB_bl, w_gN, w_par, w_par3, w_gsNil, w_gsCons, w_gT2, w_gT3, w_gTi2, w_var0, w_varS, w_c, w_nil, w_cons, w_tup, w_lst, w_new, w_newD, w_op, w_gI, w_add, w_chain, w_not, w_and, w_or, w_if, w_call, w_fn, w_fnN, w_make, w_neg, w_negI, w_t20, w_t21, w_t30, w_t31, w_t32, w_min2, w_max2, w_lenT, w_for, w_iA, wO_ok, w_cmt, List.map, List.replicate, List.set, List.append, wipeE, decide_eq_true_eq, Bool.not_true, Bool.not_false, Bool.false_eq_true, if_true, if_false, Bool.not_eq_true, decide_eq_false_iff_not, Bool.true_eq_false, reduceIte, decide_true, decide_false, Nat.reduceSub, Nat.add_zero, w_prop, w_propE e_inserted, o1, rx, nc]
          simp only [c_law_7, w_defn1, w_defn2, w_defn3, w_defn4, w_defn5, w_seq, w_snil, w_asg, w_expr, w_ret, w_retN, w_brk, w_cont, w_sif, ifB_bl, notB_bl, w_gN, w_par, w_par3, w_gsNil, w_gsCons, w_gT2, w_gT3, w_gTi2, w_var0, w_varS, w_c, w_nil, w_cons, w_tup, w_lst, w_new, w_newD, w_op, w_gI, w_add, w_chain, w_not, w_and, w_or, w_if, w_call, w_fn, w_fnN, w_make, w_neg, w_negI, w_t20, w_t21, w_t30, w_t31, w_t32, w_min2, w_max2, w_lenT, w_for, w_iA, wO_ok, w_cmt, List.map, List.replicate, List.set, List.append, wipeE, decide_eq_true_eq, Bool.not_true, Bool.not_false, Bool.false_eq_true, if_true, if_false, Bool.not_eq_true, decide_eq_false_iff_not, Bool.true_eq_false, reduceIte, decide_true, decide_false, Nat.reduceSub, Nat.add_zero, v2, w_isBB, bne_self_eq_false]
          rcases alt with rfl | ⟨bn, ne⟩
          · simp only [c_law_6, w_defn1, w_defn2, w_defn3, w_defn4, w_defn5, w_seq, w_snil, w_asg, w_expr, w_ret, w_retN, w_brk, w_cont, w_sif, ifB_bl, notB_bl, w_gN, w_par, w_par3, w_gsNil, w_gsCons, w_gT2, w_gT3, w_gTi2, w_var0, w_varS, w_c, w_nil, w_cons, w_tup, w_lst, w_new, w_newD, w_op, w_gI, w_add, w_chain, w_not, w_and, w_or, w_if, w_call, w_fn, w_fnN, w_make, w_neg, w_negI, w_t20, w_t21, w_t30, w_t31, w_t32, w_min2, w_max2, w_lenT, w_for, w_iA, wO_ok, w_cmt, List.map, List.replicate, List.set, List.append, wipeE, decide_eq_true_eq, Bool.not_true, Bool.not_false, Bool.false_eq_true, if_true, if_false, Bool.not_eq_true, decide_eq_false_iff_not, Bool.true_eq_false, reduceIte, decide_true, decide_false, Nat.reduceSub, Nat.add_zero, w_negI, w_neI, show (!((-1 : Int) == -1)) = false from rfl]
            exact ⟨by trivial, by trivial⟩
          · have o4 := fun M => o_num (M := M) (k := 4) (x := effD e) (y := d) (z := .non) (pure_eff _) pd rfl (rs4 (moved1 bn)) tx
            simp only [c_law_6, w_defn1, w_defn2, w_defn3, w_defn4, w_defn5, w_seq, w_snil, w_asg, w_expr, w_ret, w_retN, w_brk, w_cont, w_sif, ifB_bl, notB_bl, w_gN, w_par, w_par3, w_gsNil, w_gsCons, w_gT2, w_gT3, w_gTi2, w_var0, w_varS, w_c, w_nil, w_cons, w_tup, w_lst, w_new, w_newD, w_op, w_gI, w_add, w_chain, w_not, w_and, w_or, w_if, w_call, w_fn, w_fnN, w_make, w_neg, w_negI, w_t20, w_t21, w_t30, w_t31, w_t32, w_min2, w_max2, w_lenT, w_for, w_iA, wO_ok, w_cmt, List.map, List.replicate, List.set, List.append, wipeE, decide_eq_true_eq, Bool.not_true, Bool.not_false, Bool.false_eq_true, if_true, if_false, Bool.not_eq_true, decide_eq_false_iff_not, Bool.true_eq_false, reduceIte, decide_true, decide_false, Nat.reduceSub, Nat.add_zero, w_negI, ne, o4, rx, nn]
            exact ⟨by trivial, by trivial⟩
        · rintro e' M' ⟨rfl, rfl⟩
          simp only [c_law_14, w_defn1, w_defn2, w_defn3, w_defn4, w_defn5, w_seq, w_snil, w_asg, w_expr, w_ret, w_retN, w_brk, w_cont, w_sif, ifB_bl, notB_bl, w_gN, w_par, w_par3, w_gsNil, w_gsCons, w_gT2, w_gT3, w_gTi2, w_var0, w_varS, w_c, w_nil, w_cons, w_tup, w_lst, w_new, w_newD, w_op, w_gI, w_add, w_chain, w_not, w_and, w_or, w_if, w_call, w_fn, w_fnN, w_make, w_neg, w_negI, w_t20, w_t21, w_t30, w_t31, w_t32, w_min2, w_max2, w_lenT, w_for, w_iA, wO_ok, w_cmt, List.map, List.replicate, List.set, List.append, wipeE, decide_eq_true_eq, Bool.not_true, Bool.not_false, Bool.false_eq_true, if_true, if_false, Bool.not_eq_true, decide_eq_false_iff_not, Bool.true_eq_false, reduceIte, decide_true, decide_false, Nat.reduceSub, Nat.add_zero, w_iA, w_itL]
          refine w_forD (fun i e' M' => e' = [some s, none, none, some (effD e), none, none] ∧ M1 = M') ⟨rfl, rfl⟩ (fun _ _ _ _ => rfl) ?_ ?_
          · rintro j d e' M' hd ⟨rfl, rfl⟩
            have bp := odd_prg (List.mem_of_getElem? hd)
            clear hd
            have o1 := fun M => o_prg (M := M) (k := 1) (x := d) (y := .non) (z := .non) bp.pu rfl rfl rfl (rs1 (of1 bp))
            have np : ∀ {M : Mem} {P : D → Mem → Prop}, wO (gNe (.lst [.str "program", .tup []]) (.lst [.str "program", .tup []]) M) P = P (.bl false) M := fun {M P} => w_neSame (by decide +kernel)
            simp only [w_defn1, w_defn2, w_defn3, w_defn4, w_defn5, w_seq, w_snil, w_asg, w_expr, w_ret, w_retN, w_brk, w_cont, w_sif, ifB_bl, notB_bl, w_gN, w_par, w_par3, w_gsNil, w_gsCons, w_gT2, w_gT3, w_gTi2, w_var0, w_varS, w_c, w_nil, w_cons, w_tup, w_lst, w_new, w_newD, w_op, w_gI, w_add, w_chain, w_not, w_and, w_or, w_if, w_call, w_fn, w_fnN, w_make, w_neg, w_negI, w_t20, w_t21, w_t30, w_t31, w_t32, w_min2, w_max2, w_lenT, w_for, w_iA, wO_ok, w_cmt, List.map, List.replicate, List.set, List.append, wipeE, decide_eq_true_eq, Bool.not_true, Bool.not_false, Bool.false_eq_true, if_true, if_false, Bool.not_eq_true, decide_eq_false_iff_not, Bool.true_eq_false, reduceIte, decide_true, decide_false, Nat.reduceSub, Nat.add_zero]
            simp only [c_law_9, w_defn1, w_defn2, w_defn3, w_defn4, w_defn5, w_seq, w_snil, w_asg, w_expr, w_ret, w_retN, w_brk, w_cont, w_sif, ifB_bl, notB_bl, w_gN, w_par, w_par3, w_gsNil, w_gsCons, w_gT2, w_gT3, w_gTi2, w_var0, w_varS, w_c, w_nil, w_cons, w_tup, w_lst, w_new, w_newD, w_op, w_gI, w_add, w_chain, w_not, w_and, w_or, w_if, w_call, w_fn, w_fnN, w_make, w_neg, w_negI, w_t20, w_t21, w_t30, w_t31, w_t32, w_min2, w_max2, w_lenT, w_for, w_iA, wO_ok, w_cmt, List.map, List.replicate, List.set, List.append, wipeE, decide_eq_true_eq, Bool.not_true, Bool.not_false, Bool.false_eq_true, if_true, if_false, Bool.not_eq_true, decide_eq_false_iff_not, Bool.true_eq_false, reduceIte, decide_true, decide_false, Nat.reduceSub, Nat.add_zero, o1, np]
            exact ⟨by trivial, by trivial⟩
          · rintro e' M' ⟨rfl, rfl⟩
            have o1 := fun M => o_prg (M := M) (k := 1) (y := .non) (z := .non) deep_prg.pu rfl rfl rfl (rs1 (of1 deep_prg))
            have np : ∀ {M : Mem} {P : D → Mem → Prop}, wO (gNe (.lst [.str "program", .tup [.int 1, .int 0]]) (.lst [.str "program", .tup [.int 1, .int 0]]) M) P = P (.bl false) M := fun {M P} => w_neSame (by decide +kernel)
            simp only [c_law_13, w_defn1, w_defn2, w_defn3, w_defn4, w_defn5, w_seq, w_snil, w_asg, w_expr, w_ret, w_retN, w_brk, w_cont, w_sif, ifB_bl, notB_bl, w_gN, w_par, w_par3, w_gsNil, w_gsCons, w_gT2, w_gT3, w_gTi2, w_var0, w_varS, w_c, w_nil, w_cons, w_tup, w_lst, w_new, w_newD, w_op, w_gI, w_add, w_chain, w_not, w_and, w_or, w_if, w_call, w_fn, w_fnN, w_make, w_neg, w_negI, w_t20, w_t21, w_t30, w_t31, w_t32, w_min2, w_max2, w_lenT, w_for, w_iA, wO_ok, w_cmt, List.map, List.replicate, List.set, List.append, wipeE, decide_eq_true_eq, Bool.not_true, Bool.not_false, Bool.false_eq_true, if_true, if_false, Bool.not_eq_true, decide_eq_false_iff_not, Bool.true_eq_false, reduceIte, decide_true, decide_false, Nat.reduceSub, Nat.add_zero, o1, np]
            exact doors_part ok fun _ _ _ _ => ⟨rfl, pM⟩
    · rintro e M ⟨rfl, hM⟩
      simp only [c_law_19, w_defn1, w_defn2, w_defn3, w_defn4, w_defn5, w_seq, w_snil, w_asg, w_expr, w_ret, w_retN, w_brk, w_cont, w_sif, ifB_bl, notB_bl, w_gN, w_par, w_par3, w_gsNil, w_gsCons, w_gT2, w_gT3, w_gTi2, w_var0, w_varS, w_c, w_nil, w_cons, w_tup, w_lst, w_new, w_newD, w_op, w_gI, w_add, w_chain, w_not, w_and, w_or, w_if, w_call, w_fn, w_fnN, w_make, w_neg, w_negI, w_t20, w_t21, w_t30, w_t31, w_t32, w_min2, w_max2, w_lenT, w_for, w_iA, wO_ok, w_cmt, List.map, List.replicate, List.set, List.append, wipeE, decide_eq_true_eq, Bool.not_true, Bool.not_false, Bool.false_eq_true, if_true, if_false, Bool.not_eq_true, decide_eq_false_iff_not, Bool.true_eq_false, reduceIte, decide_true, decide_false, Nat.reduceSub, Nat.add_zero]
  obtain ⟨d, M, e, rfl⟩ := wO_ex key
  exact ⟨M, e⟩
end L_k19

namespace L_k19
open PySem PySem.Spec PyProof.Rows L2 DL HL
abbrev Rw : PySem.W.OpenRow := PySem.W.OpenLaw.row PySem.Challenge.rw_heapeffects_k19_errors_of_effects
abbrev hk : PySem.W.Hook := hookF 5 ft fn
def ob (z : PySem.W.SharedT) : He.AlD := obsFG 5 ft fn (HandSHeadRun.getT z)
theorem obEq (z : PySem.W.SharedT) : ob z = hk.obs z.abs := obsFG_eq (HandSHeadRun.getT_eq z)
def nms : List PySem.Str := (["_wall", "HeapError", "InvalidNumber", "InvalidCount", "InvalidBag", "InvalidProgram", "InvalidEffect", "EmptyHeap", "is_integer", "is_count", "is_bag", "check_number", "check_count", "check_bag", "from_counts", "add", "subtract", "total", "scale", "take", "drop", "MAX_DEPTH", "is_step", "find_invalid", "check_program", "IDENTITY", "join_parts", "repeat_parts", "step_parts", "program_parts"] : List PySem.Str) ++ (["find_fault", "move_bag", "Effect", "_law_pool", "_law_draw", "_law_great_effect", "_law_outcome"] : List PySem.Str)
theorem runs (w : World) : HandSHeadRun.RunEq Rw (PySem.W.view Rw.prog [42]) hk ob 6000 nms w := by
  intro os
  kernel_rfl
def spL (K : PySem.W.Frag) : Sp := fun vs H Q _ => ∃ (a : Addr) (ns : List Int), vs = [.ref a] ∧ ns.length ≤ 63 ∧ SqL K H a (ns.map V.int) ∧ ∀ H', Q (.bl true) H'
theorem ints_rd {K : Kx} {ρ : List Addr} {H : Hp} : ∀ ns : List Int, RDs K ρ H (ns.map D.int) (ns.map V.int)
  | [] => .nil
  | n :: ns => .cons (.int n) (ints_rd ns)
theorem quiet {P : Program} {w : World} {K : PySem.W.Frag} {mg : Str → Option Value} {base : Heap} {k : Nat} {f : Addr} {fd : FuncData} {ps : List Str} {sp : Sp} (h : ∀ vs H Q E, sp vs H Q E → sp vs H Q fun _ _ _ => False) (F : DL.FnOk P w K mg base (L2.CX P w) k f fd ps sp) : DL.FnOk P w K mg base L2.CX0 k f fd ps sp := by
  refine ⟨F.len, fun A hr outer z H e0 args us vs b r Q E q => codeAny_mono (F.run A outer z H args us vs Q (fun _ _ _ => False) hr e0 b r (h _ _ _ _ q)) fun v z' y => ?_⟩
  cases v with
  | error e =>
    obtain ⟨_, _, _, _, _, _, _, _, _, _, _, _, y⟩ := (show L2.CX P w outer H z (fun _ _ _ => False) e z' from y)
    exact y.elim
  | ok v => cases v <;> exact y
theorem ends {P : Program} {w : World} {K : PySem.W.Frag} {h : Heap} {mg : Str → Option Value} {f : Addr} (KX : K.In h) (G : h.Ns mainGlobals mg) (hf : mg ("law" : Str) = some (.ref f)) (c : Says ft fn K) (pf : DX.Pf P FILE) :
    ∃ fd : FuncData, (∀ (z : Shared) (v : Value), BindsTo z fd ⟨[v], []⟩ [("_law_script", v)]) ∧ ∀ base : Heap, K.In base → base.Ns mainGlobals mg → DL.FnOk P w K mg base L2.CX0 37 f fd ["_law_script"] (spL K) := by
  obtain ⟨fd, F⟩ := c.def_ 38 (d := d_law) rfl
  have e := hf.symm.trans (⟨KX, G, c, pf⟩ : Hd P K mg h).glo_law
  cases e
  have b := FunD.bindsA (ps := ["_law_script"]) F fun _ _ _ _ _ _ us hl => match us, hl with | [_], _ => rfl
  refine ⟨fd, fun z v => b z [v] rfl, fun base k1 k2 => ?_⟩
  have Y : Hd P K mg base := ⟨k1, k2, c, pf⟩
  refine quiet (fun vs H Q E q => q) (fnD_ok F sc_law (fun vs H Q E q => ?_) fun cdv A outer z H vs Q E hr q => run_body sc_law (Y.b_law cdv A outer z H E _ hr) ?_)
  · obtain ⟨a, ns, rfl, _⟩ := q
    rfl
  · obtain ⟨a, ns, rfl, hl, hs, hq⟩ := q
    obtain ⟨M, hM⟩ := law_true ns hl
    have hf : SqLf ⟨K, []⟩ [] H a (ns.map V.int) := hs.elim (fun z => .inl ⟨z, by simp, by simp⟩) .inr
    refine ⟨[], [], [.fzl (ns.map .int)], [], rfl, .cons (.fzl hf (ints_rd ns)) .nil, ⟨.nil, rfl, fun a z => by simp at z, fun l ob a z => by simp at z⟩, ?_⟩
    show PostF _ _ _ (F_law _ _) _ _
    rw [hM]
    intro ρ1 H1 v _ _ r
    cases r
    exact hq H1
end L_k19
open PySem PyProof.Rows PySem.W PySem.Calls
theorem PySem.Challenge.cw_heapeffects_k19_errors_of_effects_holds : PySem.Challenge.rw_heapeffects_k19_errors_of_effects.Holds := by
  w_on; o_law
  refine HandSHeadRun.head_any (r := OpenLaw.row PySem.Challenge.rw_heapeffects_k19_errors_of_effects) (q := view (OpenLaw.row PySem.Challenge.rw_heapeffects_k19_errors_of_effects).prog [42]) (H := L_k19.hk) (ob := L_k19.ob) (M := 6000) (loose := L_k19.nms) (d := HandSHeadRun.topDef (OpenLaw.row PySem.Challenge.rw_heapeffects_k19_errors_of_effects).prog 42) (kwd := []) L_k19.obEq
    (by kernel_rfl) (fun z => by kernel_rfl) L_k19.runs (by kernel_rfl) (by kernel_rfl) (by kernel_rfl) (by rfl) (by first | assumption | decide +kernel) (by decide +kernel) ⟨rfl, rfl, rfl, rfl, rfl, by decide +kernel⟩ ?hw ?hc
  case hw => w_witness2
  case hc =>
    refine DL.walk_ofG (l := PySem.Challenge.rw_heapeffects_k19_errors_of_effects) (n := 63) (k := 37) (par := "_law_script") (cx := L2.CX0) rfl (by decide) (by kernel_rfl) ⟨rfl, by decide, by decide⟩ ?F ?G
    case F =>
      intro w mg fa h Y G hmg0
      obtain ⟨K, KX, c⟩ := Y
      have hmg : mg (PySem.Str.ofString "law") = some (.ref fa) := by
        have e : (HandSHeadRun.topDef (OpenLaw.row PySem.Challenge.rw_heapeffects_k19_errors_of_effects).prog 42).name = ("law" : PySem.Str) := by kernel_rfl
        rw [← e]
        exact hmg0
      obtain ⟨fd, hb, hF⟩ := L_k19.ends (P := PySem.Challenge.rw_heapeffects_k19_errors_of_effects.prog) (w := w) KX G hmg c ⟨by kernel_rfl, by kernel_rfl⟩
      exact ⟨K, fd, L_k19.spL K, KX, hb, fun H a ns hl hS => ⟨a, ns, rfl, hl, hS, fun _ => rfl⟩, hF⟩
    case G => exact fun _ _ _ _ z => z

