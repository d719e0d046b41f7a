import PyProof.Rows.All
import Wide.All
import OpenK.AllK
import Wide.FinOn
import HandS.ForMost
import HandS.Walk
import HandS.TupAny
import HandS.TupMul
import HandS.SetFor
import HandS.Deep
import HandS.Zip
import HandS.Exc
import HandS.Defaults
import HandS.Strs
import KE.KDictPairs
import KE.LtSeq
import HandS.SortOrd
import HandS.SortRule
import KE.GoesMore
import KE.GoesZip
import KE.KTurns
import HandS.Words
import HandS.Head0
import HandS.Head1
import HandS.Head2
import HandS.HeadHook1
import HandS.HeadHook2
import KE.KStateDown
import HandS.HeadEnd
import HandS.Style
import PySem.Challenge.RW_wholeglance_k98_whole_sums
set_option Elab.async false
set_option linter.all false
set_option maxRecDepth 100000
set_option maxHeartbeats 0
set_option autoImplicit false
/-! ## DL1 -/
/-! Data without a heap, and what expressions and statements denote over it. -/
namespace K98
open PySem PySem.Spec PyProof.Rows L2

/-- data that never changes; tp: a tuple whose object is known to have no dict of its own; tk: one of the written part -/
inductive D where
  | non
  | int (i : Int)
  | str (s : PySem.Str)
  | tup (ds : List D)
  | tp (ds : List D)
  | tk (ds : List D)

mutual
def pd : D → PyData
  | .non => .none
  | .int i => .int i
  | .str s => .str s
  | .tup ds => .tuple (pds ds)
  | .tp ds => .tuple (pds ds)
  | .tk ds => .tuple (pds ds)
def pds : List D → List PyData
  | [] => []
  | d :: r => pd d :: pds r
end

mutual
inductive Rep (K : PySem.W.Frag) (H : Hp) : V → D → Prop
  | non : Rep K H .non .non
  | int (i : Int) : Rep K H (.int i) (.int i)
  | str (x : PySem.Str) : Rep K H (.str x) (.str x)
  | tup {a : Addr} {vs : List V} {ds : List D} : H a = some (.tup vs) → RepL K H vs ds → Rep K H (.ref a) (.tup ds)
  | tp {a : Addr} {o : Obj} {vs : List V} {ds : List D} : H a = some (.frz o (.tup vs)) → o.dict = none → RepL K H vs ds → Rep K H (.ref a) (.tp ds)
  | tk {a : Addr} {vs : List V} {ds : List D} : (∀ H', SqT K H' a vs) → RepL K H vs ds → Rep K H (.ref a) (.tk ds)
inductive RepL (K : PySem.W.Frag) (H : Hp) : List V → List D → Prop
  | nil : RepL K H [] []
  | cons {v : V} {vs : List V} {d : D} {ds : List D} : Rep K H v d → RepL K H vs ds → RepL K H (v :: vs) (d :: ds)
end

/-- the tuples stand -/
structure TupLe (H H' : Hp) : Prop where
  t : ∀ a vs, H a = some (.tup vs) → H' a = some (.tup vs)
  f : ∀ a o u, H a = some (.frz o u) → H' a = some (.frz o u)
theorem TupLe.refl {H : Hp} : TupLe H H := ⟨fun _ _ h => h, fun _ _ _ h => h⟩
theorem TupLe.trans {H H1 H2 : Hp} (a : TupLe H H1) (b : TupLe H1 H2) : TupLe H H2 := ⟨fun c vs h => b.t c vs (a.t c vs h), fun c o u h => b.f c o u (a.f c o u h)⟩
theorem same_tup {H H' : Hp} (s : Same H H') : TupLe H H' := ⟨fun a vs h => s _ _ h, fun a o u h => s _ _ h⟩
theorem upd_tup {H : Hp} {p : Addr} {o : HO} (hp : ∀ vs, H p ≠ some (.tup vs)) (hf : ∀ ob u, H p ≠ some (.frz ob u)) : TupLe H (upd H p o) :=
  ⟨fun a vs h => by
    rw [upd_ne (fun e => hp vs (by rw [← e]; exact h))]
    exact h, fun a ob u h => by
    rw [upd_ne (fun e => hf _ _ (by rw [← e]; exact h))]
    exact h⟩

mutual
theorem Rep.mono {K : PySem.W.Frag} {H H' : Hp} (e : TupLe H H') : ∀ (d : D) (v : V), Rep K H v d → Rep K H' v d
  | .non, _, h => by cases h; exact .non
  | .int i, _, h => by cases h; exact .int i
  | .str s, _, h => by cases h; exact .str s
  | .tup ds, _, h => by
    cases h with
    | tup ha hl => exact .tup (e.t _ _ ha) (RepL.mono e ds _ hl)
  | .tp ds, _, h => by
    cases h with
    | tp ha ho hl => exact .tp (e.f _ _ _ ha) ho (RepL.mono e ds _ hl)
  | .tk ds, _, h => by
    cases h with
    | tk ha hl => exact .tk ha (RepL.mono e ds _ hl)
theorem RepL.mono {K : PySem.W.Frag} {H H' : Hp} (e : TupLe H H') : ∀ (ds : List D) (vs : List V), RepL K H vs ds → RepL K H' vs ds
  | [], _, h => by cases h; exact .nil
  | d :: ds, _, h => by
    cases h with
    | cons h1 h2 => exact .cons (Rep.mono e d _ h1) (RepL.mono e ds _ h2)
end
mutual
theorem Rep.dp {K : PySem.W.Frag} {H : Hp} : ∀ (d : D) (v : V), Rep K H v d → Dp K H v (pd d)
  | .non, _, h => by cases h; exact .non
  | .int i, _, h => by cases h; exact .int i
  | .str s, _, h => by cases h; exact .str s
  | .tup ds, _, h => by
    cases h with
    | tup ha hl => exact .tup (.of ha) (RepL.dp ds _ hl)
  | .tp ds, _, h => by
    cases h with
    | tp ha ho hl => exact .tup (.inl (.inr ⟨_, ha⟩)) (RepL.dp ds _ hl)
  | .tk ds, _, h => by
    cases h with
    | tk ha hl => exact .tup (ha _) (RepL.dp ds _ hl)
theorem RepL.dp {K : PySem.W.Frag} {H : Hp} : ∀ (ds : List D) (vs : List V), RepL K H vs ds → DpAll K H vs (pds ds)
  | [], _, h => by cases h; exact .nil
  | d :: ds, _, h => by
    cases h with
    | cons h1 h2 => exact .cons (Rep.dp d _ h1) (RepL.dp ds _ h2)
end
section
variable {K : PySem.W.Frag} {H : Hp}
theorem RepL.length : ∀ {vs : List V} {ds : List D}, RepL K H vs ds → vs.length = ds.length
  | _, _, .nil => rfl
  | _, _, .cons _ t => by rw [List.length_cons, List.length_cons, RepL.length t]
theorem RepL.get : ∀ {vs : List V} {ds : List D} {i : Nat} {d : D}, RepL K H vs ds → ds[i]? = some d → ∃ v, vs[i]? = some v ∧ Rep K H v d
  | _, _, i, _, .nil, e => by simp at e
  | _, _, 0, _, .cons h _, e => by
    simp only [List.getElem?_cons_zero, Option.some.injEq] at e
    subst e
    exact ⟨_, rfl, h⟩
  | _, _, i + 1, _, .cons _ t, e => by
    obtain ⟨v, h1, h2⟩ := RepL.get (i := i) t (by simpa using e)
    exact ⟨v, by simpa using h1, h2⟩
theorem RepL.get' {vs : List V} {ds : List D} (h : RepL K H vs ds) {i : Nat} {v : V} (e : vs[i]? = some v) : ∃ d, ds[i]? = some d ∧ Rep K H v d := by
  have hi := (List.getElem?_eq_some_iff.mp e).1
  rw [h.length] at hi
  obtain ⟨v', e', r⟩ := h.get (List.getElem?_eq_getElem hi)
  rw [e] at e'
  cases e'
  exact ⟨_, List.getElem?_eq_getElem hi, r⟩
theorem RepL.append : ∀ {vs ws : List V} {ds es : List D}, RepL K H vs ds → RepL K H ws es → RepL K H (vs ++ ws) (ds ++ es)
  | _, _, _, _, .nil, s => s
  | _, _, _, _, .cons h t, s => .cons h (RepL.append t s)
theorem RepL.take : ∀ {vs : List V} {ds : List D} (n : Nat), RepL K H vs ds → RepL K H (vs.take n) (ds.take n)
  | _, _, 0, _ => .nil
  | _, _, _ + 1, .nil => .nil
  | _, _, n + 1, .cons h t => .cons h (RepL.take n t)
theorem RepL.drop : ∀ {vs : List V} {ds : List D} (n : Nat), RepL K H vs ds → RepL K H (vs.drop n) (ds.drop n)
  | _, _, 0, h => h
  | _, _, _ + 1, .nil => .nil
  | _, _, n + 1, .cons _ t => RepL.drop n t
theorem RepL.set : ∀ {vs : List V} {ds : List D} {v : V} {d : D} (n : Nat), RepL K H vs ds → Rep K H v d → RepL K H (vs.set n v) (ds.set n d)
  | _, _, _, _, _, .nil, _ => .nil
  | _, _, _, _, 0, .cons _ t, r => .cons r t
  | _, _, _, _, n + 1, .cons h t, r => .cons h (RepL.set n t r)
theorem RepL.snoc {vs : List V} {ds : List D} {v : V} {d : D} (h : RepL K H vs ds) (r : Rep K H v d) : RepL K H (vs ++ [v]) (ds ++ [d]) := h.append (.cons r .nil)
theorem RepL.ints : ∀ (ns : List Int), RepL K H (ns.map V.int) (ns.map D.int)
  | [] => .nil
  | n :: r => .cons (.int n) (RepL.ints r)
end

/-! ### what a slot, a value holds -/
inductive Vl where
  | un
  | d (x : D)
  | o (xs : List D)
  | u (xs : List D)
  | l (xs : List D)
  | m (kvs : List (List Key × D))
  | k (kvs : List (Key × Option D))
  | b (c : Bool)
  | p (xs ys : List D)
  | i (C : Addr) (fs : List (PySem.Str × D))
  | a (p : Addr)

/-- a dict's pairs -/
inductive MapR (K : PySem.W.Frag) (H : Hp) : List (List Key × V) → List (List Key × D) → Prop
  | nil : MapR K H [] []
  | cons {k : List Key} {v : V} {d : D} {r : List (List Key × V)} {s : List (List Key × D)} : Rep K H v d → MapR K H r s → MapR K H ((k, v) :: r) ((k, d) :: s)
theorem MapR.mono {K : PySem.W.Frag} {H H' : Hp} (e : TupLe H H') {r : List (List Key × V)} {s : List (List Key × D)} (h : MapR K H r s) : MapR K H' r s := by
  induction h with
  | nil => exact .nil
  | cons h _ ih => exact .cons (h.mono e) ih

/-- a dict by ints or texts; of some values nothing is told -/
inductive MapK (K : PySem.W.Frag) (H : Hp) : List (Key × V) → List (Key × Option D) → Prop
  | nil : MapK K H [] []
  | cons {k : Key} {v : V} {o : Option D} {r : List (Key × V)} {s : List (Key × Option D)} : (∀ d, o = some d → Rep K H v d) → MapK K H r s → MapK K H ((k, v) :: r) ((k, o) :: s)
theorem MapK.mono {K : PySem.W.Frag} {H H' : Hp} (e : TupLe H H') {r : List (Key × V)} {s : List (Key × Option D)} (h : MapK K H r s) : MapK K H' r s := by
  induction h with
  | nil => exact .nil
  | cons h _ ih => exact .cons (fun d e' => (h d e').mono e) ih

/-- the fields of an instance -/
inductive FldR (K : PySem.W.Frag) (H : Hp) : List (PySem.Str × V) → List (PySem.Str × D) → Prop
  | nil : FldR K H [] []
  | cons {k : PySem.Str} {v : V} {d : D} {r : List (PySem.Str × V)} {s : List (PySem.Str × D)} : Rep K H v d → FldR K H r s → FldR K H ((k, v) :: r) ((k, d) :: s)
theorem FldR.mono {K : PySem.W.Frag} {H H' : Hp} (e : TupLe H H') {r : List (PySem.Str × V)} {s : List (PySem.Str × D)} (h : FldR K H r s) : FldR K H' r s := by
  induction h with
  | nil => exact .nil
  | cons h _ ih => exact .cons (h.mono e) ih

/-- v is val in H'; a list o of one's own is new in the sense of N; u: new since H0 -/
def RepX (K : PySem.W.Frag) (N : Addr → Prop) (H0 H' : Hp) (v : V) : Vl → Prop
  | .un => False
  | .d x => Rep K H' v x
  | .o xs => ∃ a vs, v = .ref a ∧ N a ∧ H' a = some (.lst vs) ∧ RepL K H' vs xs
  | .u xs => ∃ a vs, v = .ref a ∧ H0 a = none ∧ H' a = some (.lst vs) ∧ RepL K H' vs xs
  | .l xs => ∃ a vs, v = .ref a ∧ H' a = some (.lst vs) ∧ RepL K H' vs xs
  | .m kvs => ∃ a ws, v = .ref a ∧ H' a = some (.dT ws) ∧ MapR K H' ws kvs
  | .k kvs => ∃ a ws, v = .ref a ∧ N a ∧ H' a = some (.dK ws) ∧ MapK K H' ws kvs
  | .b c => v = .bl c
  | .p xs ys => ∃ t a b vs ws, v = .ref t ∧ H' t = some (.tup [.ref a, .ref b]) ∧ H0 a = none ∧ H' a = some (.lst vs) ∧ RepL K H' vs xs ∧ H0 b = none ∧ H' b = some (.lst ws) ∧ RepL K H' ws ys
  | .i C fs => ∃ a dx gs, v = .ref a ∧ H' a = some (.ins C dx gs) ∧ FldR K H' gs fs
  | .a p => v = .ref p
abbrev New (H : Hp) : Addr → Prop := fun a => H a = none
abbrev Any : Addr → Prop := fun _ => True
section
variable {K : PySem.W.Frag} {H0 H H' : Hp} {N N' : Addr → Prop} {v : V} {x : Vl}
theorem RepX.same (h : RepX K N H0 H v x) (s : Same H H') : RepX K N H0 H' v x := by
  have t : TupLe H H' := same_tup s
  cases x with
  | un => exact h
  | d x => exact Rep.mono t _ _ h
  | o xs => obtain ⟨a, vs, e, n, q, r⟩ := h; exact ⟨a, vs, e, n, s _ _ q, r.mono t⟩
  | u xs => obtain ⟨a, vs, e, n, q, r⟩ := h; exact ⟨a, vs, e, n, s _ _ q, r.mono t⟩
  | l xs => obtain ⟨a, vs, e, q, r⟩ := h; exact ⟨a, vs, e, s _ _ q, r.mono t⟩
  | m kvs => obtain ⟨a, ws, e, q, r⟩ := h; exact ⟨a, ws, e, s _ _ q, r.mono t⟩
  | k kvs => obtain ⟨a, ws, e, n, q, r⟩ := h; exact ⟨a, ws, e, n, s _ _ q, r.mono t⟩
  | b c => exact h
  | a p => exact h
  | i C fs => obtain ⟨a, dx, ws, e, q, r⟩ := h; exact ⟨a, dx, ws, e, s _ _ q, r.mono t⟩
  | p xs ys => obtain ⟨u, a, b, vs, ws, e, q0, n1, q1, r1, n2, q2, r2⟩ := h; exact ⟨u, a, b, vs, ws, e, s _ _ q0, n1, s _ _ q1, r1.mono t, n2, s _ _ q2, r2.mono t⟩
theorem RepX.weak (h : RepX K N H0 H v x) (n : ∀ a, N a → N' a) : RepX K N' H0 H v x := by
  cases x with
  | o xs => obtain ⟨a, vs, e, q, r⟩ := h; exact ⟨a, vs, e, n _ q, r⟩
  | k xs => obtain ⟨a, vs, e, q, r⟩ := h; exact ⟨a, vs, e, n _ q, r⟩
  | _ => exact h
theorem RepX.any (h : RepX K N H0 H v x) : RepX K Any H0 H v x := h.weak fun _ _ => trivial
end
theorem new_back {H H' : Hp} (s : Same H H') {a : Addr} (h : H' a = none) : H a = none := s.free h

/-- the slots hold the values -/
def isOwn : Vl → Bool
  | .o _ => true
  | .k _ => true
  | _ => false
def isLst : Vl → Bool
  | .o _ => true
  | .u _ => true
  | .l _ => true
  | .k _ => true
  | _ => false
/-- no slot holds a pair of lists -/
def noP : Vl → Bool
  | .p _ _ => false
  | _ => true
structure EnvOk (K : PySem.W.Frag) (H0 H : Hp) (σ : L2.St) (env : List Vl) : Prop where
  len : σ.length = env.length
  at_ : ∀ (i : Nat) (x : Vl), env[i]? = some x → x ≠ .un → ∃ v, σ[i]? = some (some v) ∧ RepX K (New H0) H0 H v x
  sep : ∀ (i j : Nat) (x y : Vl), i ≠ j → env[i]? = some x → env[j]? = some y → isOwn x = true → isLst y = true → σ[i]? ≠ σ[j]?
  nop : ∀ (i : Nat) (x : Vl), env[i]? = some x → noP x = true
theorem EnvOk.same {K : PySem.W.Frag} {H0 H H' : Hp} {σ : L2.St} {env : List Vl} (h : EnvOk K H0 H σ env) (s : Same H H') : EnvOk K H0 H' σ env :=
  ⟨h.len, fun i x e n => by obtain ⟨v, a, b⟩ := h.at_ i x e n; exact ⟨v, a, b.same s⟩, h.sep, h.nop⟩

/-- an expression denotes f: wherever f is told, the expression comes to it, and nothing that stood is changed -/
def tD (K : PySem.W.Frag) (f : List Vl → Option Vl) : TE := fun σ H Q => ∃ H0 env val, Same H0 H ∧ EnvOk K H0 H σ env ∧ f env = some val ∧ ∀ v H', Same H H' → RepX K (New H) H0 H' v val → Q v H'
def tT (K : PySem.W.Frag) (f : List Vl → Option Bool) : TT := fun σ H Q => ∃ H0 env b, Same H0 H ∧ EnvOk K H0 H σ env ∧ f env = some b ∧ ∀ H', Same H H' → Q b H'
/-- values in a row -/
inductive RepXs (K : PySem.W.Frag) (N : Addr → Prop) (H0 H' : Hp) : List V → List Vl → Prop
  | nil : RepXs K N H0 H' [] []
  | cons {v : V} {vs : List V} {x : Vl} {xs : List Vl} : RepX K N H0 H' v x → RepXs K N H0 H' vs xs → RepXs K N H0 H' (v :: vs) (x :: xs)
def tA (K : PySem.W.Frag) (f : List Vl → Option (List Vl)) : TA := fun σ H Q => ∃ H0 env vals, Same H0 H ∧ EnvOk K H0 H σ env ∧ f env = some vals ∧ ∀ vs H', Same H H' → RepXs K Any H0 H' vs vals → Q vs H'
/-- what a def gives back -/
inductive Rt where
  | d (x : D)
  | o (xs : List D)
  | p (xs ys : List D)
  | i (C : Addr) (fs : List (PySem.Str × D))
def Rt.v : Rt → Vl
  | .d x => .d x
  | .o xs => .o xs
  | .p xs ys => .p xs ys
  | .i C fs => .i C fs
inductive Out where
  | nx (env : List Vl)
  | rt (r : Rt)
def EndS (K : PySem.W.Frag) (D : Ends) (H0 H : Hp) : Out → Prop
  | .nx env' => ∀ σ' H', Same H0 H' → TupLe H H' → EnvOk K H0 H' σ' env' → D.nx σ' H'
  | .rt val => ∀ v H', Same H0 H' → RepX K (New H0) H0 H' v val.v → D.rt v H'
theorem EndS.up {K : PySem.W.Frag} {D : Ends} {H0 H H1 : Hp} {o : Out} (h : EndS K D H0 H o) (t : TupLe H H1) : EndS K D H0 H1 o := by
  cases o with
  | nx e => exact fun σ' H' s t' he => h σ' H' s (t.trans t') he
  | rt r => exact h
def tS (K : PySem.W.Frag) (f : List Vl → Option Out) : TS := fun D σ H => ∃ H0 env out, Same H0 H ∧ EnvOk K H0 H σ env ∧ f env = some out ∧ EndS K D H0 H out

section
variable {X : Cx} {e : Expr} {es : List Expr} {st : Stmt} {sts : List Stmt}
theorem pe_wk {t t' : TE} (h : PE X e t) (w : ∀ σ H Q, t' σ H Q → t σ H Q) : PE X e t' := ⟨fun pins s σ H Q I q => h.run pins s σ H Q I (w σ H Q q)⟩
theorem pt_wk {t t' : TT} (h : PT X e t) (w : ∀ σ H Q, t' σ H Q → t σ H Q) : PT X e t' := ⟨fun pins s σ H Q I q => h.run pins s σ H Q I (w σ H Q q)⟩
theorem pw_wk {t t' : TT} (h : PW X e t) (w : ∀ σ H Q, t' σ H Q → t σ H Q) : PW X e t' := ⟨fun wh pins s σ H Q I q => h.run wh pins s σ H Q I (w σ H Q q)⟩
theorem pa_wk {t t' : TA} (h : PA X es t) (w : ∀ σ H Q, t' σ H Q → t σ H Q) : PA X es t' := ⟨fun pos pins s σ H Q I q => h.run pos pins s σ H Q I (w σ H Q q)⟩
theorem ps_wk {t t' : TS} (h : PS X st t) (w : ∀ D σ H, t' D σ H → t D σ H) : PS X st t' := ⟨fun pins s σ H D I q => h.run pins s σ H D I (w D σ H q)⟩
theorem pss_wk {t t' : TS} (h : PSs X sts t) (w : ∀ D σ H, t' D σ H → t D σ H) : PSs X sts t' := ⟨fun pins s σ H D I q => h.run pins s σ H D I (w D σ H q)⟩
end

/-! ### taking apart -/
def intOf : Vl → Option Int
  | .d (.int i) => some i
  | _ => none
def datOf : Vl → Option D
  | .d x => some x
  | _ => none
def tupOf : Vl → Option (List D)
  | .d (.tup xs) => some xs
  | _ => none
def anyTup : Vl → Option (List D)
  | .d (.tup xs) => some xs
  | .d (.tp xs) => some xs
  | .d (.tk xs) => some xs
  | _ => none
def lstOf : Vl → Option (List D)
  | .o xs => some xs
  | .u xs => some xs
  | .l xs => some xs
  | _ => none
def seqOf (x : Vl) : Option (List D) := (anyTup x).or (lstOf x)
section
variable {K : PySem.W.Frag} {N : Addr → Prop} {H0 H : Hp} {v : V} {x : Vl}
theorem RepX.int {i : Int} (h : RepX K N H0 H v x) (e : intOf x = some i) : v = .int i := by
  unfold intOf at e
  split at e
  · cases e
    cases (show Rep K H v (.int i) from h)
    rfl
  · cases e
theorem RepX.dat {d : D} (h : RepX K N H0 H v x) (e : datOf x = some d) : Rep K H v d := by
  unfold datOf at e
  split at e
  · cases e
    exact h
  · cases e
theorem RepX.tup {xs : List D} (h : RepX K N H0 H v x) (e : tupOf x = some xs) : ∃ a vs, v = .ref a ∧ H a = some (.tup vs) ∧ RepL K H vs xs := by
  unfold tupOf at e
  split at e
  · cases e
    cases (show Rep K H v (.tup xs) from h) with
    | tup h1 h2 => exact ⟨_, _, rfl, h1, h2⟩
  · cases e
theorem RepX.any' {xs : List D} (h : RepX K N H0 H v x) (e : anyTup x = some xs) : ∃ a vs, v = .ref a ∧ SqT K H a vs ∧ RepL K H vs xs := by
  unfold anyTup at e
  split at e
  · cases e
    cases (show Rep K H v (.tup xs) from h) with
    | tup h1 h2 => exact ⟨_, _, rfl, .of h1, h2⟩
  · cases e
    cases (show Rep K H v (.tp xs) from h) with
    | tp h1 _ h2 => exact ⟨_, _, rfl, .inl (.inr ⟨_, h1⟩), h2⟩
  · cases e
    cases (show Rep K H v (.tk xs) from h) with
    | tk h1 h2 => exact ⟨_, _, rfl, h1 _, h2⟩
  · cases e
theorem RepX.lst {xs : List D} (h : RepX K N H0 H v x) (e : lstOf x = some xs) : ∃ a vs, v = .ref a ∧ H a = some (.lst vs) ∧ RepL K H vs xs := by
  unfold lstOf at e
  split at e
  · cases e
    obtain ⟨a, vs, e, _, q, r⟩ := h
    exact ⟨a, vs, e, q, r⟩
  · cases e
    obtain ⟨a, vs, e, _, q, r⟩ := h
    exact ⟨a, vs, e, q, r⟩
  · cases e
    obtain ⟨a, vs, e, q, r⟩ := h
    exact ⟨a, vs, e, q, r⟩
  · cases e
theorem RepX.seq {xs : List D} (h : RepX K N H0 H v x) (e : seqOf x = some xs) : ∃ a vs, v = .ref a ∧ (SqL K H a vs ∨ SqT K H a vs) ∧ RepL K H vs xs := by
  unfold seqOf at e
  rcases Option.or_eq_some_iff.mp e with q | ⟨_, q⟩
  · obtain ⟨a, vs, e1, e2, r⟩ := h.any' q
    exact ⟨a, vs, e1, .inr e2, r⟩
  · obtain ⟨a, vs, e1, e2, r⟩ := h.lst q
    exact ⟨a, vs, e1, .inl (.of e2), r⟩
end
end K98

/-! ## DL2 -/
/-! What expressions denote. -/
namespace K98
open PySem PySem.Spec PyProof.Rows L2
section
variable {K : PySem.W.Frag} {X : Cx} {a b c : Expr} {es : List Expr} {fa fb fc : List Vl → Option Vl} {fs : List Vl → Option (List Vl)} {pos : Pos}

def e1 (g : Vl → Option Vl) (f : List Vl → Option Vl) : List Vl → Option Vl := fun env => (f env).bind g
def e2 (g : Vl → Vl → Option Vl) (fa fb : List Vl → Option Vl) : List Vl → Option Vl := fun env => (fa env).bind fun a => (fb env).bind fun b => g a b
def t1 (g : Vl → Option Bool) (f : List Vl → Option Vl) : List Vl → Option Bool := fun env => (f env).bind g
def t2 (g : Vl → Vl → Option Bool) (fa fb : List Vl → Option Vl) : List Vl → Option Bool := fun env => (fa env).bind fun a => (fb env).bind fun b => g a b
def eC (g : List Vl → Option Vl) (f : List Vl → Option (List Vl)) : List Vl → Option Vl := fun env => (f env).bind g

/-- a rule for one value, for two, for a row -/
def Ru1 (K : PySem.W.Frag) (r : V → Hp → VK → Prop) (g : Vl → Option Vl) : Prop :=
  ∀ (H0 H : Hp) (x : V) (a : Vl) (val : Vl) (Q : VK), Same H0 H → RepX K Any H0 H x a → g a = some val → (∀ v H', Same H H' → RepX K (New H) H0 H' v val → Q v H') → r x H Q
def Ru2 (K : PySem.W.Frag) (r : R2) (g : Vl → Vl → Option Vl) : Prop :=
  ∀ (H0 H : Hp) (x y : V) (a b : Vl) (val : Vl) (Q : VK), Same H0 H → RepX K Any H0 H x a → RepX K Any H0 H y b → g a b = some val → (∀ v H', Same H H' → RepX K (New H) H0 H' v val → Q v H') → r x y H Q
def RuC (K : PySem.W.Frag) (r : List V → Hp → VK → Prop) (g : List Vl → Option Vl) : Prop :=
  ∀ (H0 H : Hp) (xs : List V) (as : List Vl) (val : Vl) (Q : VK), Same H0 H → RepXs K Any H0 H xs as → g as = some val → (∀ v H', Same H H' → RepX K (New H) H0 H' v val → Q v H') → r xs H Q
def RuT (K : PySem.W.Frag) (r : R2) (g : Vl → Vl → Option Bool) : Prop :=
  ∀ (H0 H : Hp) (x y : V) (a b : Vl) (k : Bool) (Q : VK), Same H0 H → RepX K Any H0 H x a → RepX K Any H0 H y b → g a b = some k → (∀ H', Same H H' → Q (.bl k) H') → r x y H Q

theorem den1 {r : V → Hp → VK → Prop} {g : Vl → Option Vl} (hr : Ru1 K r g) (σ : L2.St) (H : Hp) (Q : VK) (h : tD K (e1 g fa) σ H Q) : tD K fa σ H (fun x H1 => r x H1 Q) := by
  obtain ⟨H0, env, val, s0, he, hf, q⟩ := h
  obtain ⟨a, ha, hg⟩ := Option.bind_eq_some_iff.mp hf
  refine ⟨H0, env, a, s0, he, ha, fun v H' s1 hv => ?_⟩
  exact hr H0 H' v a val Q (s0.trans s1) hv.any hg fun v' H'' s2 hv' => q v' H'' (s1.trans s2) (hv'.weak fun p hp => s1.free hp)
theorem den2 {r : R2} {g : Vl → Vl → Option Vl} (hr : Ru2 K r g) (σ : L2.St) (H : Hp) (Q : VK) (h : tD K (e2 g fa fb) σ H Q) : tOp r (tD K fa) (tD K fb) σ H Q := by
  obtain ⟨H0, env, val, s0, he, hf, q⟩ := h
  obtain ⟨a, ha, hf⟩ := Option.bind_eq_some_iff.mp hf
  obtain ⟨b, hb, hg⟩ := Option.bind_eq_some_iff.mp hf
  refine ⟨H0, env, a, s0, he, ha, fun v H' s1 hv => ?_⟩
  refine ⟨H0, env, b, s0.trans s1, he.same s1, hb, fun u H'' s2 hu => ?_⟩
  exact hr H0 H'' v u a b val Q ((s0.trans s1).trans s2) (hv.any.same s2) hu.any hg fun v' H3 s3 hv' => q v' H3 ((s1.trans s2).trans s3) (hv'.weak fun p hp => (s1.trans s2).free hp)
theorem denT {r : R2} {g : Vl → Vl → Option Bool} (hr : RuT K r g) (σ : L2.St) (H : Hp) (Q : Bool → Hp → Prop) (h : tT K (t2 g fa fb) σ H Q) : tTest (tOp r (tD K fa) (tD K fb)) σ H Q := by
  obtain ⟨H0, env, val, s0, he, hf, q⟩ := h
  obtain ⟨a, ha, hf⟩ := Option.bind_eq_some_iff.mp hf
  obtain ⟨b, hb, hg⟩ := Option.bind_eq_some_iff.mp hf
  refine ⟨H0, env, a, s0, he, ha, fun v H' s1 hv => ?_⟩
  refine ⟨H0, env, b, s0.trans s1, he.same s1, hb, fun u H'' s2 hu => ?_⟩
  exact hr H0 H'' v u a b val _ ((s0.trans s1).trans s2) (hv.any.same s2) hu.any hg fun H3 s3 => ⟨val, rfl, q H3 ((s1.trans s2).trans s3)⟩
theorem denC {r : List V → Hp → VK → Prop} {g : List Vl → Option Vl} (hr : RuC K r g) (σ : L2.St) (H : Hp) (Q : VK) (h : tD K (eC g fs) σ H Q) : tCB r (tA K fs) σ H Q := by
  obtain ⟨H0, env, val, s0, he, hf, q⟩ := h
  obtain ⟨as, ha, hg⟩ := Option.bind_eq_some_iff.mp hf
  refine ⟨H0, env, as, s0, he, ha, fun vs H' s1 hv => ?_⟩
  exact hr H0 H' vs as val Q (s0.trans s1) hv hg fun v' H'' s2 hv' => q v' H'' (s1.trans s2) (hv'.weak fun p hp => s1.free hp)

/-! ### names, constants -/
def eVar (i : Nat) : List Vl → Option Vl := fun env => match env[i]? with
  | some (.d x) => some (.d x)
  | some (.o xs) => some (.u xs)
  | some (.l xs) => some (.l xs)
  | some (.m kvs) => some (.m kvs)
  | some (.i C fs) => some (.i C fs)
  | _ => none
theorem d_var (i : Nat) {x : PySem.Str} (hN : X.N[i]? = some x := by rfl) (hv : Vis X.env.scope x := by first | exact Or.inl rfl | exact Or.inr (Or.inl rfl) | exact Or.inr (Or.inr rfl))
    (hd : (x == ("__debug__" : PySem.Str)) = false := by decide) (hcd : (x == ("__classdict__" : PySem.Str)) = false := by decide) : PE X (.Name x pos) (tD K (eVar i)) := by
  refine pe_wk (pe_var hN hv hd hcd) fun σ H Q h => ?_
  obtain ⟨H0, env, val, s0, he, hf, q⟩ := h
  unfold eVar at hf
  split at hf
  · rename_i x e
    cases hf
    obtain ⟨v, e1, r⟩ := he.at_ i _ e (by intro z; cases z)
    exact ⟨v, e1, q v H (Same.refl H) r⟩
  · rename_i xs e
    cases hf
    obtain ⟨v, e1, r⟩ := he.at_ i _ e (by intro z; cases z)
    exact ⟨v, e1, q v H (Same.refl H) r⟩
  · rename_i xs e
    cases hf
    obtain ⟨v, e1, r⟩ := he.at_ i _ e (by intro z; cases z)
    exact ⟨v, e1, q v H (Same.refl H) r⟩
  · rename_i xs e
    cases hf
    obtain ⟨v, e1, r⟩ := he.at_ i _ e (by intro z; cases z)
    exact ⟨v, e1, q v H (Same.refl H) r⟩
  · rename_i C fs e
    cases hf
    obtain ⟨v, e1, r⟩ := he.at_ i _ e (by intro z; cases z)
    exact ⟨v, e1, q v H (Same.refl H) r⟩
  · cases hf
def eD (x : D) : List Vl → Option Vl := fun _ => some (.d x)
theorem tC_D {v : V} {x : D} (hr : ∀ H, Rep K H v x) (σ : L2.St) (H : Hp) (Q : VK) (h : tD K (eD x) σ H Q) : tC v σ H Q := by
  obtain ⟨H0, env, val, s0, he, hf, q⟩ := h
  cases hf
  exact q v H (Same.refl H) (hr H)
theorem d_int {i : Int} {j : Nat} : PE X (.Constant (.int i) j pos) (tD K (eD (.int i))) := pe_wk pe_int (tC_D fun _ => .int i)
theorem d_str {x : PySem.Str} {j : Nat} : PE X (.Constant (.str x) j pos) (tD K (eD (.str x))) := pe_wk pe_str (tC_D fun _ => .str x)
theorem d_non {j : Nat} : PE X (.Constant .none j pos) (tD K (eD .non)) := pe_wk pe_non (tC_D fun _ => .non)
/-- a module's tuple -/
theorem d_glob {x : PySem.Str} {d : D} {p : Addr} (hg : Gl X x) (hm : X.mg x = some (.ref p)) (hr : ∀ H, Rep K H (.ref p) d) (hd : (x == ("__debug__" : PySem.Str)) = false := by decide) : PE X (.Name x pos) (tD K (eD d)) := pe_wk (pe_glob (v := V.ref p) hg hm rfl hd) (tC_D hr)

/-! ### numbers -/
def gI (f : Int → Int → Option Int) : Vl → Vl → Option Vl := fun a b => (intOf a).bind fun i => (intOf b).bind fun j => (f i j).map fun k => .d (.int k)
theorem ru_I {r : R2} {f : Int → Int → Option Int} (h : ∀ i j k H (Q : VK), f i j = some k → Q (.int k) H → r (.int i) (.int j) H Q) : Ru2 K r (gI f) := by
  intro H0 H x y a b val Q s0 hx hy hg q
  unfold gI at hg
  obtain ⟨i, hi, hg⟩ := Option.bind_eq_some_iff.mp hg
  obtain ⟨j, hj, hg⟩ := Option.bind_eq_some_iff.mp hg
  obtain ⟨k, hk, hg⟩ := Option.map_eq_some_iff.mp hg
  subst hg
  rw [hx.int hi, hy.int hj]
  exact h i j k H Q hk (q _ H (Same.refl H) (Rep.int k))
def eAdd : (List Vl → Option Vl) → (List Vl → Option Vl) → List Vl → Option Vl := e2 (gI fun i j => some (i + j))
def eSub : (List Vl → Option Vl) → (List Vl → Option Vl) → List Vl → Option Vl := e2 (gI fun i j => some (i - j))
def eMul : (List Vl → Option Vl) → (List Vl → Option Vl) → List Vl → Option Vl := e2 (gI fun i j => if (-(2 ^ 64) < i ∧ i < 2 ^ 64) ∨ (-(2 ^ 64) < j ∧ j < 2 ^ 64) then some (i * j) else none)
def eMod : (List Vl → Option Vl) → (List Vl → Option Vl) → List Vl → Option Vl := e2 (gI fun i j => if 0 < j then some (i % j) else none)
def eDiv : (List Vl → Option Vl) → (List Vl → Option Vl) → List Vl → Option Vl := e2 (gI fun i j => if 0 < j ∧ j < 1073741824 then some (i / j) else none)
theorem d_add (ha : PE X a (tD K fa)) (hb : PE X b (tD K fb)) : PE X (.BinOp a .Add b pos) (tD K (eAdd fa fb)) :=
  pe_wk (pe_op op_add ha hb) (den2 (ru_I fun i j k H Q e q => ⟨i, j, rfl, rfl, by cases e; exact q⟩))
theorem d_sub (ha : PE X a (tD K fa)) (hb : PE X b (tD K fb)) : PE X (.BinOp a .Sub b pos) (tD K (eSub fa fb)) :=
  pe_wk (pe_op op_sub ha hb) (den2 (ru_I fun i j k H Q e q => ⟨i, j, rfl, rfl, by cases e; exact q⟩))
theorem d_mul (ha : PE X a (tD K fa)) (hb : PE X b (tD K fb)) : PE X (.BinOp a .Mult b pos) (tD K (eMul fa fb)) :=
  pe_wk (pe_op op_mul ha hb) (den2 (ru_I fun i j k H Q e q => by
    split at e
    · rename_i hc
      cases e
      exact ⟨i, j, rfl, rfl, hc, q⟩
    · cases e))
theorem d_mod (ha : PE X a (tD K fa)) (hb : PE X b (tD K fb)) : PE X (.BinOp a .Mod b pos) (tD K (eMod fa fb)) :=
  pe_wk (pe_op op_mod ha hb) (den2 (ru_I fun i j k H Q e q => by
    split at e
    · rename_i hc
      cases e
      exact ⟨i, j, rfl, rfl, hc, q⟩
    · cases e))
theorem d_div (ha : PE X a (tD K fa)) (hb : PE X b (tD K fb)) : PE X (.BinOp a .FloorDiv b pos) (tD K (eDiv fa fb)) :=
  pe_wk (pe_op op_fdiv ha hb) (den2 (ru_I fun i j k H Q e q => by
    split at e
    · rename_i hc
      cases e
      exact ⟨i, j, rfl, rfl, hc, q⟩
    · cases e))
def eNeg : (List Vl → Option Vl) → List Vl → Option Vl := e1 fun a => (intOf a).map fun i => .d (.int (-i))
theorem d_neg (ha : PE X a (tD K fa)) : PE X (.UnaryOp .USub a pos) (tD K (eNeg fa)) :=
  pe_wk (pe_un un_neg ha) (den1 fun H0 H x a val Q s0 hx hg q => by
    obtain ⟨i, hi, hg⟩ := Option.map_eq_some_iff.mp hg
    subst hg
    rw [hx.int hi]
    exact ⟨i, rfl, q _ H (Same.refl H) (Rep.int _)⟩)

/-! ### tuples, lists -/
def aNil : List Vl → Option (List Vl) := fun _ => some []
def aCons (f : List Vl → Option Vl) (r : List Vl → Option (List Vl)) : List Vl → Option (List Vl) := fun env => (f env).bind fun a => (r env).map fun as => a :: as
theorem RepXs.same {N : Addr → Prop} {H0 H H' : Hp} {vs : List V} {xs : List Vl} (h : RepXs K N H0 H vs xs) (s : Same H H') : RepXs K N H0 H' vs xs := by
  induction h with
  | nil => exact .nil
  | cons h _ ih => exact .cons (h.same s) ih
theorem a_nil : PA X [] (tA K aNil) := pa_wk pa_nil fun σ H Q h => by
  obtain ⟨H0, env, val, s0, he, hf, q⟩ := h
  cases hf
  exact q [] H (Same.refl H) .nil
theorem a_cons (ha : PE X a (tD K fa)) (hr : PA X es (tA K fs)) (hs : starEach (a :: es) X.env = (false, eval a X.env) :: starEach es X.env := by rfl) : PA X (a :: es) (tA K (aCons fa fs)) :=
  pa_wk (pa_cons ha hr hs) fun σ H Q h => by
    obtain ⟨H0, env, val, s0, he, hf, q⟩ := h
    obtain ⟨x, hx, hf⟩ := Option.bind_eq_some_iff.mp hf
    obtain ⟨xs, hxs, hf⟩ := Option.map_eq_some_iff.mp hf
    subst hf
    refine ⟨H0, env, x, s0, he, hx, fun v H1 s1 hv => ?_⟩
    refine ⟨H0, env, xs, s0.trans s1, he.same s1, hxs, fun vs H2 s2 hvs => ?_⟩
    exact q (v :: vs) H2 (s1.trans s2) (.cons (hv.any.same s2) hvs)
def dats : List Vl → Option (List D)
  | [] => some []
  | a :: r => (datOf a).bind fun x => (dats r).map fun xs => x :: xs
theorem RepXs.dats {N : Addr → Prop} {H0 H : Hp} {vs : List V} {xs : List Vl} (h : RepXs K N H0 H vs xs) : ∀ {ds : List D}, K98.dats xs = some ds → RepL K H vs ds := by
  induction h with
  | nil => intro ds e; cases e; exact .nil
  | cons h _ ih =>
    intro ds e
    obtain ⟨x, hx, e⟩ := Option.bind_eq_some_iff.mp e
    obtain ⟨xs, hxs, e⟩ := Option.map_eq_some_iff.mp e
    subst e
    exact .cons (h.dat hx) (ih hxs)
def eTup (f : List Vl → Option (List Vl)) : List Vl → Option Vl := fun env => (f env).bind fun vs => (dats vs).bind fun ds => if ds.length ≤ 1000 then some (.d (.tup ds)) else none
def eLst (f : List Vl → Option (List Vl)) : List Vl → Option Vl := fun env => (f env).bind fun vs => (dats vs).bind fun ds => if ds.length ≤ 1000 then some (.o ds) else none
theorem line1000 {n : Nat} (h : n ≤ 1000) : n ≤ sizeLine := by rw [sizeLine_eq]; omega
theorem same_new {H : Hp} {p : Addr} {o : HO} (h : H p = none) : Same H (upd H p o) := fun b x e => by
  rw [upd_ne (ne_of_none e h)]
  exact e
theorem d_tup {k : Nat} (h : PA X es (tA K fs)) : PE X (.Tuple es k pos) (tD K (eTup fs)) := by
  refine pe_wk (pe_tup h) fun σ H Q h => ?_
  obtain ⟨H0, env, val, s0, he, hf, q⟩ := h
  obtain ⟨xs, hx, hf⟩ := Option.bind_eq_some_iff.mp hf
  obtain ⟨ds, hd, hf⟩ := Option.bind_eq_some_iff.mp hf
  split at hf
  · rename_i hl
    cases hf
    refine ⟨H0, env, xs, s0, he, hx, fun vs H1 s1 hvs => ?_⟩
    have r := hvs.dats hd
    refine ⟨line1000 (by rw [r.length]; exact hl), fun p hp => ?_⟩
    refine q (.ref p) _ (s1.trans (same_new hp)) (Rep.tup upd_same (r.mono (same_tup (same_new hp))))
  · cases hf
theorem d_lst (h : PA X es (tA K fs)) : PE X (.List es pos) (tD K (eLst fs)) := by
  refine pe_wk (pe_lst h) fun σ H Q h => ?_
  obtain ⟨H0, env, val, s0, he, hf, q⟩ := h
  obtain ⟨xs, hx, hf⟩ := Option.bind_eq_some_iff.mp hf
  obtain ⟨ds, hd, hf⟩ := Option.bind_eq_some_iff.mp hf
  split at hf
  · rename_i hl
    cases hf
    refine ⟨H0, env, xs, s0, he, hx, fun vs H1 s1 hvs => ?_⟩
    have r := hvs.dats hd
    refine ⟨line1000 (by rw [r.length]; exact hl), fun p hp => ?_⟩
    exact q (.ref p) _ (s1.trans (same_new hp)) ⟨p, vs, rfl, s1.free hp, upd_same, r.mono (same_tup (same_new hp))⟩
  · cases hf
def gIx : Vl → Vl → Option Vl := fun a b => (seqOf a).bind fun xs => (intOf b).bind fun i => (atI xs i).map fun x => .d x
def eIx : (List Vl → Option Vl) → (List Vl → Option Vl) → List Vl → Option Vl := e2 gIx
theorem atI_rep {H : Hp} {vs : List V} {xs : List D} {i : Int} {x : D} (r : RepL K H vs xs) (e : atI xs i = some x) : ∃ v, atI vs i = some v ∧ Rep K H v x := by
  unfold atI at e ⊢
  rw [r.length]
  obtain ⟨j, hj, e⟩ := Option.bind_eq_some_iff.mp e
  obtain ⟨v, hv, rv⟩ := r.get e
  exact ⟨v, by rw [hj]; exact hv, rv⟩
theorem d_ix (hK : X.K = K) (ha : PE X a (tD K fa)) (hb : PE X b (tD K fb)) (hs : PlainIx b := by exact fun _ _ => rfl) : PE X (.Subscript a b pos) (tD K (eIx fa fb)) := by
  subst hK
  refine pe_wk (pe_ix ix_seq ha hb hs) (den2 fun H0 H x y a b val Q s0 hx hy hg q => ?_)
  unfold gIx at hg
  obtain ⟨xs, h1, hg⟩ := Option.bind_eq_some_iff.mp hg
  obtain ⟨i, h2, hg⟩ := Option.bind_eq_some_iff.mp hg
  obtain ⟨d, h3, hg⟩ := Option.map_eq_some_iff.mp hg
  subst hg
  obtain ⟨p, vs, e, hq, r⟩ := hx.seq h1
  obtain ⟨v, hv, rv⟩ := atI_rep r h3
  rw [e, hy.int h2]
  have fin := q v H (Same.refl H) rv
  rcases hq with hq | hq
  · exact .inl ⟨p, vs, i, v, rfl, rfl, hq, hv, fin⟩
  · exact .inr (.inl ⟨p, vs, i, v, rfl, rfl, hq, hv, fin⟩)
def cutD (xs : List D) (lo hi : Option Int) : List D := (xs.drop (HT.sIx xs.length 0 lo)).take (HT.sIx xs.length xs.length hi - HT.sIx xs.length 0 lo)
def oNone : List Vl → Option (Option Int) := fun _ => some none
def oSome (f : List Vl → Option Vl) : List Vl → Option (Option Int) := fun env => (f env).bind fun a => (intOf a).map some
def tO (K : PySem.W.Frag) (f : List Vl → Option (Option Int)) : TO := fun σ H Q => ∃ H0 env o, Same H0 H ∧ EnvOk K H0 H σ env ∧ f env = some o ∧ ∀ H', Same H H' → Q o H'
theorem po_wk {e : Option Expr} {t t' : TO} (h : PO X e t) (w : ∀ σ H Q, t' σ H Q → t σ H Q) : PO X e t' := ⟨fun pins s σ H Q I q => h.run pins s σ H Q I (w σ H Q q)⟩
theorem o_none : PO X none (tO K oNone) := po_wk po_none fun σ H Q h => by
  obtain ⟨H0, env, o, s0, he, hf, q⟩ := h
  cases hf
  exact q H (Same.refl H)
theorem o_some (ha : PE X a (tD K fa)) : PO X (some a) (tO K (oSome fa)) := po_wk (po_some ha) fun σ H Q h => by
  obtain ⟨H0, env, o, s0, he, hf, q⟩ := h
  obtain ⟨x, hx, hf⟩ := Option.bind_eq_some_iff.mp hf
  obtain ⟨i, hi, hf⟩ := Option.map_eq_some_iff.mp hf
  subst hf
  exact ⟨H0, env, x, s0, he, hx, fun v H1 s1 hv => ⟨i, hv.int hi, q H1 s1⟩⟩
def eSl (f : List Vl → Option Vl) (lo hi : List Vl → Option (Option Int)) : List Vl → Option Vl := fun env =>
  (f env).bind fun a => (lo env).bind fun l => (hi env).bind fun h => (tupOf a).map fun xs => .d (.tup (cutD xs l h))
theorem cut_rep {H : Hp} {vs : List V} {xs : List D} (r : RepL K H vs xs) (lo hi : Option Int) : RepL K H (cutV vs lo hi) (cutD xs lo hi) := by
  unfold cutV cutD
  rw [r.length]
  exact (r.drop _).take _
theorem cutD_whole {xs : List D} {lo hi : Option Int} (h : HT.sIx xs.length 0 lo = 0 ∧ HT.sIx xs.length xs.length hi = xs.length) : cutD xs lo hi = xs := by
  unfold cutD
  rw [h.1, h.2, List.drop_zero, Nat.sub_zero, List.take_length]
theorem d_slice {lo hi : Option Expr} {fl fh : List Vl → Option (Option Int)} {p2 : Pos} (hK : X.K = K) (ha : PE X a (tD K fa)) (hl : PO X lo (tO K fl)) (hh : PO X hi (tO K fh)) :
    PE X (.Subscript a (.Slice lo hi none p2) pos) (tD K (eSl fa fl fh)) := by
  subst hK
  refine pe_wk (pe_slice sl_tupA ha hl hh) fun σ H Q h => ?_
  obtain ⟨H0, env, val, s0, he, hf, q⟩ := h
  obtain ⟨x, hx, hf⟩ := Option.bind_eq_some_iff.mp hf
  obtain ⟨l, hl, hf⟩ := Option.bind_eq_some_iff.mp hf
  obtain ⟨u, hu, hf⟩ := Option.bind_eq_some_iff.mp hf
  obtain ⟨xs, hxs, hf⟩ := Option.map_eq_some_iff.mp hf
  subst hf
  refine ⟨H0, env, x, s0, he, hx, fun v H1 s1 hv => ⟨H0, env, l, s0.trans s1, he.same s1, hl, fun H2 s2 => ⟨H0, env, u, (s0.trans s1).trans s2, he.same (s1.trans s2), hu, fun H3 s3 => ?_⟩⟩⟩
  obtain ⟨p, vs, e, hq, r⟩ := (hv.same (s2.trans s3)).tup hxs
  refine ⟨p, vs, e, SqT.of hq, fun hw => ?_, fun hw p' hp' => ?_⟩
  · refine q _ H3 ((s1.trans s2).trans s3) ?_
    rw [r.length] at hw
    rw [cutD_whole hw]
    exact Rep.tup hq r
  · refine q _ _ (((s1.trans s2).trans s3).trans (same_new hp')) ?_
    exact Rep.tup upd_same ((cut_rep r l u).mono (same_tup (same_new hp')))
/-- tuple + tuple -/
def gCat : Vl → Vl → Option Vl := fun a b => (tupOf a).bind fun xs => (tupOf b).bind fun ys => if xs.length + ys.length ≤ 1000 then some (.d (.tup (xs ++ ys))) else none
def eCat : (List Vl → Option Vl) → (List Vl → Option Vl) → List Vl → Option Vl := e2 gCat
theorem d_cat (hK : X.K = K) (ha : PE X a (tD K fa)) (hb : PE X b (tD K fb)) : PE X (.BinOp a .Add b pos) (tD K (eCat fa fb)) := by
  subst hK
  refine pe_wk (pe_op op_catA ha hb) (den2 fun H0 H x y a b val Q s0 hx hy hg q => ?_)
  unfold gCat at hg
  obtain ⟨xs, h1, hg⟩ := Option.bind_eq_some_iff.mp hg
  obtain ⟨ys, h2, hg⟩ := Option.bind_eq_some_iff.mp hg
  split at hg
  · rename_i hl
    cases hg
    obtain ⟨p, vs, e1, q1, r1⟩ := hx.tup h1
    obtain ⟨p2, ws, e2, q2, r2⟩ := hy.tup h2
    refine ⟨p, p2, vs, ws, e1, e2, SqT.of q1, SqT.of q2, line1000 (by rw [r1.length, r2.length]; exact hl), fun z => ?_, fun z1 z2 => ?_, fun z1 z2 p' hp' => ?_⟩
    · subst z
      cases r1
      exact q _ H (Same.refl H) (Rep.tup q2 r2)
    · subst z2
      cases r2
      rw [List.append_nil] at q
      exact q _ H (Same.refl H) (Rep.tup q1 r1)
    · exact q _ _ (same_new hp') (Rep.tup upd_same ((r1.append r2).mono (same_tup (same_new hp'))))
  · cases hg
/-- list * int -/
def gRep : Vl → Vl → Option Vl := fun a b => (lstOf a).bind fun xs => (intOf b).bind fun k => if 0 ≤ k ∧ k ≤ 1000 ∧ xs.length ≤ 1 then some (.o (List.replicate k.toNat xs).flatten) else none
def eRep : (List Vl → Option Vl) → (List Vl → Option Vl) → List Vl → Option Vl := e2 gRep
theorem rep_flat {H : Hp} {vs : List V} {xs : List D} (r : RepL K H vs xs) : ∀ n : Nat, RepL K H (List.replicate n vs).flatten (List.replicate n xs).flatten
  | 0 => by simp; exact .nil
  | n + 1 => by
    rw [List.replicate_succ, List.replicate_succ, List.flatten_cons, List.flatten_cons]
    exact r.append (rep_flat r n)
theorem d_rep (ha : PE X a (tD K fa)) (hb : PE X b (tD K fb)) : PE X (.BinOp a .Mult b pos) (tD K (eRep fa fb)) := by
  refine pe_wk (pe_op op_rep ha hb) (den2 fun H0 H x y a b val Q s0 hx hy hg q => ?_)
  unfold gRep at hg
  obtain ⟨xs, h1, hg⟩ := Option.bind_eq_some_iff.mp hg
  obtain ⟨k, h2, hg⟩ := Option.bind_eq_some_iff.mp hg
  split at hg
  · rename_i hl
    cases hg
    obtain ⟨p, vs, e1, q1, r1⟩ := hx.lst h1
    refine ⟨p, k, vs, e1, hy.int h2, q1, by omega, by omega, ?_, fun p' hp' => ?_⟩
    · rw [r1.length, sizeLine_eq]
      have : xs.length * k.toNat ≤ 1 * 1000 := Nat.mul_le_mul hl.2.2 (by omega)
      omega
    · exact q _ _ (same_new hp') ⟨p', _, rfl, hp', upd_same, (rep_flat r1 _).mono (same_tup (same_new hp'))⟩
  · cases hg
end
end K98

/-! ## Low1 -/
/-! Rules that the layer lacks: sum of a tuple, in a tuple, tuple * 1, an item read for an operator. -/
namespace K98
open PySem PySem.Spec PyProof.Rows L2

section
variable {prog : Program} {w : World} {A : Around} {E : Value → Shared → Prop} {s : Shared} {l : Addr}
/-- sum of a tuple of ints -/
theorem sum_tup_raw {its : List Value} {ns : List Int} {Q : Value → Shared → Prop} (hh : A.handled = none) (hl : IsTup s.heap l its.toArray) (hi : IntsAre its ns)
    (h : ∀ h' tk t', (∀ b o, s.heap.get? b = some o → h'.get? b = some o) → Q (.int ns.sum t') { s with heap := h', toks := tk }) : wpAny (model prog w) A (call (.builtin "sum") [.ref l]) Q E s := by
  obtain ⟨xs, e⟩ := hi.allInts.items
  have hn : numsOf (intItems xs).toList = ns := by rw [← e]; exact hi.numsOf
  rw [nums_intItems] at hn
  rw [e] at hl
  have hT : s.heap.IsTuple l (intItems xs) := hl
  have hlt : l < s.heap.objs.size := by obtain ⟨_, q, _⟩ := hl; exact Heap.lt_size q
  refine call_sum_walkG (wpAny_pyIter_tuple hT ?_)
  refine ⟨s.heap.objs.size, [s.heap.objs.size, l], [s.heap.objs.size], (intItems xs).size, _, _, numAt xs, rfl, Walks.tuple (A := A.in1) hh _ l (Nat.ne_of_lt hlt) (intItems xs), ⟨⟨_, Heap.get?_push_size _ rfl, rfl, rfl⟩, ?_⟩, fun b hb => ?_, (fun _ _ => intItems_at), fun h' tk t' hk => ?_⟩
  · obtain ⟨o, q, c⟩ := hT
    exact ⟨o, Heap.get?_push_of_some _ q, c⟩
  · show b < (s.heap.push _).objs.size
    rw [Heap.size_push]
    rcases List.mem_cons.mp hb with q | hb
    · rw [q]; exact Nat.lt_succ_self _
    · rcases List.mem_cons.mp hb with q | hb
      · rw [q]; exact Nat.lt_succ_of_lt hlt
      · cases hb
  · have k := h h' tk t' fun b o q => hk b o (fun hm => by
      rcases List.mem_cons.mp hm with z | hm
      · exact absurd (z ▸ Heap.lt_size q) (Nat.lt_irrefl _)
      · cases hm) (Heap.get?_push_of_some _ q)
    rw [preSum_eq, List.take_of_length_le (by simp [intItems]), hn]
    exact k
end
section
variable {X : Cx}
def rSumT (K : PySem.W.Frag) : List V → Hp → VK → Prop := fun vs H Q => ∃ (a : Addr) (ns : List Int), vs = [V.ref a] ∧ (SqL K H a (ns.map V.int) ∨ SqT K H a (ns.map V.int)) ∧ Q (.int ns.sum) H
theorem cr_sumT (hc : X.calm = true) : CallR X (.builtin "sum") (rSumT X.K) := by
  intro pins s σ H vs us Q I r h
  obtain ⟨a, ns, rfl, hs, q⟩ := h
  rcases hs with hs | hs
  · exact cr_sum hc pins s σ H _ us Q I r ⟨a, ns, rfl, hs, q⟩
  · obtain ⟨its, rv, hl, _⟩ := I.tuple hs
    rw [Vals.ref1 r]
    exact sum_tup_raw (I.ok.hd hc) hl rv.ints fun h' tk t' hk => ⟨.int _, H, I.kept hk, ⟨_, rfl⟩, q⟩
/-- x in a tuple of data -/
def rInT (K : PySem.W.Frag) : R2 := fun x y H Q => ∃ d ds, Dp K H x d ∧ Dp K H y (.tuple ds) ∧ SeqAt.shaped d = true ∧ SeqAt.shaped (.tuple ds) = true ∧ Q (.bl (ds.any fun z => PyData.eqv z d)) H
theorem op_inT (hu : X.A.units + 65 < cLine) : OpR X (compareOp .In) (rInT X.K) := by
  intro pins s σ H x y v u Q I rx ry h
  obtain ⟨d, ds, hd, he, sd, se, q⟩ := h
  obtain ⟨as, r1⟩ := Dp.reads I d x v hd rx
  obtain ⟨bs, r2⟩ := Dp.reads I (.tuple ds) y u he ry
  exact SeqAt.in_tuple_reads r2 r1 (SeqAt.canLay_of_shaped se) (SeqAt.canLay_of_shaped sd) (room_in_shaped sd hu) ⟨.bl _, H, I, rfl, q⟩
/-- xs[i], read for xs[i] op= e -/
def rGetL : V → V → Hp → VK → Prop := fun o i H Q => ∃ p xs k x, o = .ref p ∧ i = .int (k : Nat) ∧ H p = some (.lst xs) ∧ xs[k]? = some x ∧ Q x H
theorem get_list : PGet X rGetL := by
  intro pins s σ H o i ov iv Q I ro ri h
  obtain ⟨p, xs, k, x, rfl, rfl, hp, hx, q⟩ := h
  cases ro
  obtain ⟨t, rfl⟩ := ri
  obtain ⟨its, r, pl, hz⟩ := I.list (SqL.of (K := X.K) hp)
  obtain ⟨u, hu, ru⟩ := r.get hx
  have hk := (List.getElem?_eq_some_iff.mp hx).1
  have hn := line63
  exact wpAny_getItem_list (x := u) pl.isList (by omega) (by omega) (by simpa using hu) ⟨x, H, I, ru, q⟩
end

/-! ### tuple * 1 -/
theorem tuple_mul1W (l : Addr) (items : Array Value) (n : Nat) (dd : Option Addr) (sl : Array (Option Value)) (u : Tok) :
    Meets (Builtin.«tuple.__mul__» ⟨[.ref l, .int 1 u], []⟩) (fun _ R s => s.heap.get? l = some { cls := .type "tuple", dict := dd, data := .seq items n, slots := sl } ∧ R (.ok (.ret (Value.ref l))) s) :=
  .of_wp fun prog w A R s h => by
    obtain ⟨hp, g, d, tk, os⟩ := s
    obtain ⟨hl, h⟩ := h
    have f1 := AutoSeq1.idx_int
    have c0 : (decide ((1 : Int) < -(2 ^ 63)) || decide ((1 : Int) ≥ 2 ^ 63)) = false := by decide
    have c1 : (items.isEmpty || (1 : Int) == 1) = true := by simp
    wp_walk using wpAny_loadPart' hl
    exact ⟨_, rfl, h⟩
section
variable {X : Cx}
/-- tuple * 1 is the tuple itself -/
def rRepT1 (K : PySem.W.Frag) : R2 := fun x y H Q => ∃ l xs, x = .ref l ∧ y = .int 1 ∧ SqT K H l xs ∧ Q (.ref l) H
theorem op_repT1 : OpR X (binaryOp .Mult) (rRepT1 X.K) := by
  intro pins s σ H x y v u Q I rx ry h
  obtain ⟨l, xs, rfl, rfl, hT, q⟩ := h
  cases rx
  obtain ⟨t, rfl⟩ := ry
  obtain ⟨its, r, ⟨⟨cls, dd, data, sl⟩, ho, hc, n, hd⟩, hs⟩ := I.tuple hT
  simp only at hc hd
  subst hc hd
  exact wpAny_binaryOp_repeat_ref (T := "tuple") (U := "int") (by decide) ⟨_, ho, rfl⟩ (fun s' => typeIs_int s' 1 t) noFill_tuple_mul F.fills_int_mul F.slot_int_rmul repeat_tuple F.slot_int_index.lookup
    (call_meets F.slot_int_rmul (typeIs_int s 1 t) F.entry_int_rmul (F.args_int_rmul_2 _ _) (int_rmul_tuple 1 t l its.toArray n dd sl)
      ⟨ho, rfl, ⟨_, ho, rfl⟩, call_meets F.slot_tuple_mul ⟨_, ho, rfl⟩ F.entry_tuple_mul (F.args_tuple_mul_2 _ _) (tuple_mul1W l its.toArray n dd sl t) ⟨ho, ⟨.ref l, H, I, rfl, q⟩⟩⟩)
end
end K98

/-! ## Low2 -/
/-! set(xs) of a list of ints; turned from the layer's rule for a tuple of ints. -/
namespace K98
open PySem PySem.Spec PyProof.Rows L2
section
variable {P : Program} {w : World} {A : Around} {E : Value → Shared → Prop} {s : Shared}
set_option maxRecDepth 100000 in
set_option maxHeartbeats 3200000 in
theorem call_set_lst {l : Addr} {items : Array Value} (ns : List Int) {Q : Value → Shared → Prop} (hh : A.handled = none) (hl : s.heap.IsList l items) (hit : IntsAre items.toList ns) (hb : ns.length + 1 < scanBound)
    (h : ∀ (h' : Heap) (tk c : Nat), SetR w h' s.heap.objs.size (fun j => decide (j ∈ ns)) c → c ≤ ns.length → (∀ b o, s.heap.get? b = some o → h'.get? b = some o) → Q (.ref s.heap.objs.size) { s with heap := h', toks := tk }) :
    wpAny (model P w) A (call (.type "set") [.ref l]) Q E s := by
  have hisz : items.size = ns.length := by
    have q := IntsAre.length hit
    rw [Array.length_toList] at q
    exact q
  obtain ⟨c, tl, hmro⟩ := F.called_set.mro
  have hmade := F.called_set.made
  have hsub := F.called_set.sub
  refine wpAny_call (codeAny_of_tree ?_)
  show wpAny _ _ (callAny (.type "set") _) _ _ _
  refine wpAny_pure ⟨Code.quiet_builtin _ (by decide +kernel), codeAny_builtin F.entry_type_call ?_⟩
  rw [Around.under_plain (weight_type_call_type "set" [.ref l] []) rfl]
  have h1 := F.called_set.notType
  have h2 := F.called_set.canCreate
  have hct := F.typeCall_set_1 (.ref l)
  repeat (any_goals (first | assumption | wp_step))

  refine codeAny_mono (code_set_led1 (.ref l) (E := E) (Q₁ := fun obj s₁ => obj = .ref s.heap.objs.size ∧ s₁ = { s with heap := s.heap.push { cls := .type "set", dict := none, data := .set #[] 0 (.fresh 0 0 (!w.params.followText "set-order")) } }) ⟨rfl, rfl⟩) fun r s₁ hr => ?_
  cases r with
  | error e => exact hr
  | ok fl =>
    cases fl with
    | ret obj =>
      obtain ⟨rfl, rfl⟩ := hr
      have hS : (s.heap.push { cls := .type "set", dict := none, data := .set #[] 0 (.fresh 0 0 (!w.params.followText "set-order")) }).get? s.heap.objs.size = some { cls := .type "set", dict := none, data := .set #[] 0 (.fresh 0 0 (!w.params.followText "set-order")) } := Heap.get?_push_size _ rfl
      have hT : Shared.TypeIs { s with heap := s.heap.push { cls := .type "set", dict := none, data := .set #[] 0 (.fresh 0 0 (!w.params.followText "set-order")) } } (.ref s.heap.objs.size) "set" := ⟨_, hS, rfl⟩
      have hli := F.called_set.init.lookup
      have hbi := F.called_set.init.bind (.ref s.heap.objs.size)
      repeat (any_goals (first | assumption | wp_step))

      refine codeAny_mono (codeAny_call_builtin (R := wants (fun r s₂ => r = .none ∧ ∃ h' tk c, s₂ = { s with heap := h', toks := tk } ∧ SetR w h' s.heap.objs.size (fun j => decide (j ∈ ns)) c ∧ c ≤ ns.length ∧
          (∀ b o, s.heap.get? b = some o → h'.get? b = some o)) E) F.called_set.init.plain F.entry_set_init (check_set_init_1 hT ?_)) fun r₂ s₂ hr₂ => ?_
      · obtain ⟨ol, hol, hcl, nl, hdl⟩ := hl
        obtain ⟨ocls, odict, odata, oslots⟩ := ol
        simp only at hcl hdl
        subst hcl; subst hdl
        have hol' : (s.heap.push { cls := .type "set", dict := none, data := .set #[] 0 (.fresh 0 0 (!w.params.followText "set-order")) }).get? l = some { cls := .type "list", dict := odict, data := .seq items nl, slots := oslots } := Heap.get?_push_of_some _ hol
        have hsls := F.sub_list_set
        have hslf := F.sub_list_frozenset
        have hne : (Value.type "list" == Value.type "dict") = false := by decide
        have hl1 : (s.heap.push { cls := .type "set", dict := none, data := .set #[] 0 (.fresh 0 0 (!w.params.followText "set-order")) }).IsList l items := ⟨_, hol', rfl, nl, rfl⟩
        unfold Builtin.«set.__init__» noKeywords Builtin.Frozenset.updateFrom
        generalize hPI : pyIter = PI
        wp_walk
        subst hPI

        refine wpAny_pyIter_list hl1 ?_
        refine wpAny_bind (wpAny_runValue ?_)
        have hlS : l < s.heap.objs.size := Heap.lt_size hol
        have hh3 : A.in1.in1.in1.handled = none := by simp [hh]
        have hz1 : (s.heap.push { cls := .type "set", dict := none, data := .set #[] 0 (.fresh 0 0 (!w.params.followText "set-order")) }).objs.size = s.heap.objs.size + 1 := Heap.size_push ..
        have hneI : l ≠ (s.heap.push { cls := .type "set", dict := none, data := .set #[] 0 (.fresh 0 0 (!w.params.followText "set-order")) }).objs.size := by
          rw [Heap.size_push]; exact Nat.ne_of_lt (Nat.lt_succ_of_lt hlS)
        have hSf : s.heap.objs.size ∉ [(s.heap.push { cls := .type "set", dict := none, data := .set #[] 0 (.fresh 0 0 (!w.params.followText "set-order")) }).objs.size, l] := by
          rw [Heap.size_push]; simp only [List.mem_cons, List.mem_singleton, List.not_mem_nil, or_false, not_or]
          exact ⟨Nat.ne_of_lt (Nat.lt_succ_self _), Nat.ne_of_gt hlS⟩
        have hval : ∀ (i : Nat) (v : Value), items[i]? = some v → ∃ k t, ns[i]? = some k ∧ v = .int k t := fun i v hv => by
          have hi : i < ns.length := by rw [← hisz]; exact (Array.getElem?_eq_some_iff.mp hv).1
          obtain ⟨t, e⟩ := PyProof.Rows.IntsAre.int_at hit i v (by rw [Array.getElem?_toList]; exact hv)
          refine ⟨ns[i], t, List.getElem?_eq_getElem hi, ?_⟩
          rw [e, List.getD_eq_getElem?_getD, List.getElem?_eq_getElem hi] <;> rfl
        refine set_update_ints ((Walks.list hh3 _ l hneI items).toS) s.heap.objs.size
          hSf ns hisz hb hval (items.size - 0) 0 _ (by omega) (Nat.zero_le _)
          ⟨⟨_, Heap.get?_push_size _ rfl, rfl, rfl⟩, (hl1.push _)⟩ ?hS0 ?hR
        case hS0 =>
          have hget : ((s.heap.push { cls := .type "set", dict := none, data := .set #[] 0 (.fresh 0 0 (!w.params.followText "set-order")) }).push { cls := .type "list_iterator", data := .fields #[.ref l, .int 0 0] }).get? s.heap.objs.size
              = some { cls := .type "set", dict := none, data := .set #[] 0 (.fresh 0 0 (!w.params.followText "set-order")) } := Heap.get?_push_of_some _ hS
          exact ⟨0, Nat.le_refl 0, setR_new_at hget⟩
        case hR =>
          intro s' c' hm hc' hS'
          obtain ⟨h', g2, d', tk', os'⟩ := s'
          have eg : g2 = s.gens := hm.gens
          have ed : d' = s.drawn := hm.drawn
          have eo : os' = s.os := hm.os
          subst eg; subst ed; subst eo
          show wpAny _ _ _ _ _ _
          refine wpAny_pure ?_
          show wpAny _ _ (ret Value.none) _ _ _
          rw [hisz] at hc'
          refine wpAny_pure ⟨rfl, h', tk', c', rfl, hS', hc', fun b o e => ?_⟩
          have hb0 : b < s.heap.objs.size := Heap.lt_size e
          have hb1 : b ≠ s.heap.objs.size := Nat.ne_of_lt hb0
          have hb2 : b ≠ (s.heap.push { cls := .type "set", dict := none, data := .set #[] 0 (.fresh 0 0 (!w.params.followText "set-order")) }).objs.size := by
            rw [Heap.size_push]; exact Nat.ne_of_lt (Nat.lt_succ_of_lt hb0)
          exact hm.heap b o (by simp only [List.mem_cons, List.mem_singleton, List.not_mem_nil, or_false, not_or]; exact ⟨hb1, hb2⟩) (Heap.get?_push_of_some _ (Heap.get?_push_of_some _ e))

      · cases r₂ with
        | error e => exact hr₂
        | ok fl₂ =>
          cases fl₂ with
          | ret r =>
            obtain ⟨rfl, h', tk, c', rfl, hS', hc', hk'⟩ := hr₂
            repeat (any_goals (first | assumption | wp_step))
            exact h _ _ _ hS' hc' hk'
          | _ => exact hr₂.elim
    | _ => exact hr.elim

end
section
variable {X : Cx}
theorem nodup_le : ∀ {l m : List Int}, l.Nodup → (∀ k ∈ l, k ∈ m) → l.length ≤ m.length
  | [], _, _, _ => Nat.zero_le _
  | k :: r, m, hn, h => by
    have h1 : k ∈ m := h k List.mem_cons_self
    have h2 : r.length ≤ (m.erase k).length := nodup_le (List.nodup_cons.mp hn).2 fun j hj => by
      have hne : j ≠ k := fun e => (List.nodup_cons.mp hn).1 (e ▸ hj)
      exact (List.mem_erase_of_ne hne).mpr (h j (List.mem_cons_of_mem _ hj))
    rw [List.length_erase_of_mem h1] at h2
    have : 0 < m.length := List.length_pos_of_mem h1
    rw [List.length_cons]
    omega
/-- set(xs) of a list of ints: a set of its members -/
def rSetL (K : PySem.W.Frag) (w : World) : List V → Hp → VK → Prop := fun xs H Q => ∃ (a : Addr) (ns : List Int), xs = [.ref a] ∧ SqL K H a (ns.map V.int) ∧ ns.length ≤ 1000 ∧
  ∀ (p : Addr) (c : Nat), H p = none → (∀ ms : List Int, (∀ k ∈ ns, k ∈ ms) → c ≤ ms.length) → Q (.ref p) (upd H p (SetO w p (fun j => decide (j ∈ ns)) c))
theorem cr_setL (hc : X.calm = true) : CallR X (.type "set") (rSetL X.K X.w) := by
  intro pins s σ H xs us Q I r h
  obtain ⟨a, ns, rfl, hs, hl, q⟩ := h
  obtain ⟨its, rv, pl, _⟩ := I.list hs
  rw [Vals.ref1 r]
  refine call_set_lst ns (I.ok.hd hc) pl.isList (by simpa using rv.ints) (by unfold scanBound; omega) fun h' tk c R hcl k => ?_
  have hn : H s.heap.objs.size = none := I.hok.fresh (Nat.le_refl _)
  refine ⟨.ref s.heap.objs.size, _, I.laid (t' := tk) k (Nat.le_refl _) (setO_new R), rfl, q _ _ hn fun ms hms => ?_⟩
  obtain ⟨o, es, ep, t, _, _, _, _, hnd, hS, _, _, hsz, _⟩ := R
  have := nodup_le hnd (m := ms) fun k hk => hms k (of_decide_eq_true ((hS k).mpr hk))
  rw [List.length_map, Array.length_toList, hsz] at this
  exact this
end
end K98

/-! ## Low3 -/
/-! dict(t) of a tuple of pairs, the keys tuples of ints and texts. -/
namespace K98
open PySem PySem.Spec PyProof.Rows L2

/-- the items of a tuple are pairs of a key and a value -/
inductive PairsR (K : PySem.W.Frag) (H : Hp) : List V → List (List Key × V) → Prop
  | nil : PairsR K H [] []
  | cons {p b : Addr} {k : List Key} {v : V} {vs : List V} {kvs : List (List Key × V)} : SqT K H p [.ref b, v] → H b = some (.tup (k.map kV)) → PairsR K H vs kvs → PairsR K H (.ref p :: vs) ((k, v) :: kvs)

theorem storedAllH_new {κ : Type} [DecidableEq κ] : ∀ (ps acc : List (κ × Addr × Value)), ((acc ++ ps).map (·.1)).Nodup → storedAllH acc ps = acc ++ ps
  | [], acc, _ => by simp [storedAllH]
  | p :: ps, acc, h => by
    have hn : atKey acc p.1 = none := by
      unfold atKey
      rw [Option.map_eq_none_iff, List.find?_eq_none]
      intro x hx
      rw [decide_eq_true_eq]
      intro e
      rw [List.map_append, List.map_cons] at h
      have := (List.nodup_append.mp h).2.2 x.1 (List.mem_map_of_mem hx) p.1 List.mem_cons_self
      exact this e
    show storedAllH (storedH acc p.1 p.2.1 p.2.2) ps = _
    rw [storedH_new hn]
    have e : acc ++ [(p.1, p.2.1, p.2.2)] ++ ps = acc ++ p :: ps := by simp
    rw [storedAllH_new ps _ (by rw [e]; exact h), e]

section
variable {X : Cx} {pins : List (Addr × Obj)} {σ : L2.St} {H : Hp} {s : Shared}
theorem pairs_read (I : Inv X pins σ H s) : ∀ {vs : List V} {kvs : List (List Key × V)} {its : List Value}, PairsR X.K H vs kvs → Vals vs its →
    ∃ (ps : List (List Key × Addr × Value)) (Ts : Nat → Addr), KT H kvs ps ∧ its.length = ps.length ∧
      ∀ (j : Nat) (x : List Key × Addr × Value), ps[j]? = some x → its[j]? = some (.ref (Ts j)) ∧ s.heap.IsTuple (Ts j) #[.ref x.2.1, x.2.2]
  | _, _, _, .nil, r => by
    cases r
    exact ⟨[], fun _ => 0, .nil, rfl, fun j x e => by simp at e⟩
  | _, _, _, .cons (p := p) (b := b) (k := k) (v := v) hp hb t, r => by
    cases r with
    | cons r1 r2 =>
      cases r1
      obtain ⟨ps, Ts, h1, h2, h3⟩ := pairs_read I t r2
      obtain ⟨it, rv, ht, _⟩ := I.tuple hp
      obtain ⟨u1, u2, ei, q1, q2⟩ := vals2 rv
      subst ei
      cases q1
      refine ⟨(k, b, u2) :: ps, fun j => match j with | 0 => p | j + 1 => Ts j, .cons ⟨rfl, hb, q2⟩ h1, by rw [List.length_cons, List.length_cons, h2], fun j x e => ?_⟩
      cases j with
      | zero =>
        simp only [List.getElem?_cons_zero, Option.some.injEq] at e
        subst e
        exact ⟨rfl, ht⟩
      | succ j =>
        have := h3 j x (by simpa using e)
        exact ⟨by simpa using this.1, this.2⟩

def rDictT (K : PySem.W.Frag) : List V → Hp → VK → Prop := fun xs H Q => ∃ (a : Addr) (o : Obj) (vs : List V) (kvs : List (List Key × V)), xs = [.ref a] ∧ H a = some (.frz o (.tup vs)) ∧ o.dict = none ∧ PairsR K H vs kvs ∧ (kvs.map (·.1)).Nodup ∧ vs.length ≤ 1000 ∧
  ∀ p, H p = none → Q (.ref p) (upd H p (.dT kvs))
theorem KT.keys {H : Hp} {kvs : List (List Key × V)} {ps : List (List Key × Addr × Value)} (h : KT H kvs ps) : kvs.map (·.1) = ps.map (·.1) := by
  induction h with
  | nil => rfl
  | cons h _ ih => rw [List.map_cons, List.map_cons, ih, h.1]
theorem KT.mem {H : Hp} {kvs : List (List Key × V)} {ps : List (List Key × Addr × Value)} (h : KT H kvs ps) : ∀ x ∈ ps, H x.2.1 = some (.tup (x.1.map kV)) := by
  induction h with
  | nil => intro x hx; cases hx
  | cons h _ ih =>
    intro x hx
    rcases List.mem_cons.mp hx with e | hx
    · subst e
      rw [← h.1]
      exact h.2.1
    · exact ih x hx
theorem cr_dictT (hc : X.calm = true) (hu : X.A.units + 2 < cLine) : CallR X (.type "dict") (rDictT X.K) := by
  intro pins s σ H xs us Q I r h
  obtain ⟨a, o, vs, kvs, rfl, ha, hod, hp, hn, hl, q⟩ := h
  rw [Vals.ref1 r]
  obtain ⟨hget, hz, its, rv, hT⟩ := (show ObjOk X.prog X.w H s.heap a (.frz o (.tup vs)) from I.hok a _ ha)
  obtain ⟨o', ho', hcl, n, hd⟩ := hT
  rw [hget] at ho'
  cases ho'
  obtain ⟨ps, Ts, kt, hlen, hit⟩ := pairs_read I hp rv
  have hkeys : ∀ x ∈ ps, (tupleKind (mixKind X.prog X.w)).is s.heap x.1 x.2.1 := fun x hx => key_of I.hok (KT.mem kt x hx)
  refine call_dict_pairsH (knd := tupleKind (mixKind X.prog X.w)) (ps := ps) (PairArg.tuple a its.toArray Ts (ps.map fun x => (.ref x.2.1, x.2.2))) (I.ok.hd hc) ?_ ⟨⟨o, n, hget, hcl, hod, hd⟩, ?_, fun j k v e => ?_⟩ ⟨by simp, fun j key v e => ?_⟩ (fun h' hk x hx => ?_) ?_ fun h' tk hd' hk => ?_
  · show X.A.in1.in1.units < cLine
    show X.A.units + 1 + 1 < cLine
    omega
  · simp [hlen]
  · rw [List.getElem?_map] at e
    obtain ⟨x, hx, e⟩ := Option.map_eq_some_iff.mp e
    cases e
    obtain ⟨h1, h2⟩ := hit j x hx
    exact ⟨by simpa using h1, .inl h2⟩
  · have e' : (ps.map fun x => ((.ref x.2.1, x.2.2) : Value × Value))[j]? = some (key, v) := e
    rw [List.getElem?_map] at e'
    obtain ⟨x, hx, e'⟩ := Option.map_eq_some_iff.mp e'
    cases e'
    exact ⟨x.1, x.2.1, hx, rfl⟩
  · obtain ⟨ob, itm, n', g1, g2, g3, g4⟩ := hkeys x hx
    exact ⟨ob, itm, n', hk _ _ (Nat.ne_of_lt (Heap.lt_size g1)) (by simp) g1, g2, g3, g4⟩
  · rw [List.length_map, ← hlen, ← rv.length, sizeLine_eq]; omega
  · rw [storedAllH_new ps [] (by rw [List.nil_append, ← KT.keys kt]; exact hn), List.nil_append] at hd'
    have hm : (s.heap.objs.size == sysModules) = false := beq_eq_false_iff_ne.mpr (Nat.ne_of_gt I.big)
    have hf : H s.heap.objs.size = none := I.hok.fresh (Nat.le_refl _)
    have hkl : kvs.length ≤ sizeLine := by
      have e1 : kvs.length = ps.length := Paired.length kt
      rw [e1, ← hlen, ← rv.length, sizeLine_eq]; omega
    obtain ⟨q1, es, ep, w1, w2, w3, w4, w5, w6⟩ := hd'
    refine ⟨.ref s.heap.objs.size, _, I.laid (t' := tk) (fun b o e => hk b o (by simp) e) (Nat.le_refl _) ?_, rfl, q _ hf⟩
    refine ⟨hkl, hm, ps, KT.keeps kt fun b ys e => ?_, q1, es, ep, w1, w2, w3, w4, w6⟩
    rw [upd_ne (ne_of_none e hf)]
    exact e
end
end K98

/-! ## Low4 -/
/-! sorted(xs) of a list of pairs (key, content) whose keys rise already: the same items. -/
namespace K98
open PySem PySem.Spec PyProof.Rows L2

/-! ### the order of keys -/
def ltKey : Key → Key → Bool
  | .inl i, .inl j => decide (i < j)
  | .inr a, .inr b => decide (a.cps.toList < b.cps.toList)
  | _, _ => false
def sameKind : Key → Key → Bool
  | .inl _, .inl _ => true
  | .inr _, .inr _ => true
  | _, _ => false
def lexK : List Key → List Key → Bool
  | [], [] => false
  | [], _ :: _ => true
  | _ :: _, [] => false
  | x :: xs, y :: ys => if x = y then lexK xs ys else ltKey x y
/-- where they part first, they are of one kind -/
def cmpK : List Key → List Key → Bool
  | x :: xs, y :: ys => if x = y then cmpK xs ys else sameKind x y
  | _, _ => true
def firstK (ks ls : List Key) (fin : Bool) : List Nat → Bool := SeqAt.firstLt (fun j => decide (ks[j]? = ls[j]?)) (fun j => ltKey (ks.getD j (.inl 0)) (ls.getD j (.inl 0))) fin

theorem firstLt_map {e r : Nat → Bool} {fin : Bool} (f : Nat → Nat) : ∀ l : List Nat, SeqAt.firstLt e r fin (l.map f) = SeqAt.firstLt (fun j => e (f j)) (fun j => r (f j)) fin l
  | [] => rfl
  | j :: t => by
    rw [List.map_cons]
    unfold SeqAt.firstLt
    rw [firstLt_map f t]
theorem firstK_eq : ∀ (ks ls : List Key), firstK ks ls (decide (ks.length < ls.length)) (List.range (min ks.length ls.length)) = lexK ks ls
  | [], [] => rfl
  | [], _ :: _ => by simp [firstK, SeqAt.firstLt, lexK]
  | _ :: _, [] => by simp [firstK, SeqAt.firstLt, lexK]
  | x :: xs, y :: ys => by
    have ih := firstK_eq xs ys
    unfold firstK at ih ⊢
    rw [List.length_cons, List.length_cons, show min (xs.length + 1) (ys.length + 1) = min xs.length ys.length + 1 by omega, List.range_succ_eq_map]
    unfold SeqAt.firstLt
    rw [firstLt_map]
    unfold lexK
    by_cases h : x = y
    · rw [if_pos h, if_pos (by simp [h])]
      rw [← ih]
      congr 1
      simp
    · rw [if_neg h, if_neg (by simp [h])]
      rfl
theorem cmpK_at : ∀ (ks ls : List Key) (j : Nat) (x y : Key), cmpK ks ls = true → (∀ i, i < j → ks[i]? = ls[i]?) → ks[j]? = some x → ls[j]? = some y → x ≠ y → sameKind x y = true
  | [], _, j, _, _, _, _, h, _, _ => by simp at h
  | _ :: _, [], j, _, _, _, _, _, h, _ => by simp at h
  | a :: ks, b :: ls, 0, x, y, hc, _, h1, h2, hn => by
    simp only [List.getElem?_cons_zero, Option.some.injEq] at h1 h2
    subst h1 h2
    unfold cmpK at hc
    rw [if_neg hn] at hc
    exact hc
  | a :: ks, b :: ls, j + 1, x, y, hc, he, h1, h2, hn => by
    have h0 := he 0 (by omega)
    simp only [List.getElem?_cons_zero, Option.some.injEq] at h0
    unfold cmpK at hc
    rw [if_pos h0] at hc
    exact cmpK_at ks ls j x y hc (fun i hi => by simpa using he (i + 1) (by omega)) (by simpa using h1) (by simpa using h2) hn

section
variable {P : Program} {w : World} {A : Around} {s : Shared}
theorem item_at {knd : KeyKind P w Key} : ∀ {ks : List Key} {us : List Value} {j : Nat} {k : Key}, ItemsAre knd ks us → ks[j]? = some k → ∃ u, us[j]? = some u ∧ knd.is k u = true
  | _, _, _, _, .nil, h => by simp at h
  | _, _, 0, _, .cons h _, e => by
    simp only [List.getElem?_cons_zero, Option.some.injEq] at e
    subst e
    exact ⟨_, rfl, h⟩
  | _, _, j + 1, k, .cons _ t, e => by
    obtain ⟨u, h1, h2⟩ := item_at (j := j) t (by simpa using e)
    exact ⟨u, by simpa using h1, h2⟩
theorem items_len {knd : KeyKind P w Key} {ks : List Key} {us : List Value} (h : ItemsAre knd ks us) : us.length = ks.length := by
  induction h with
  | nil => rfl
  | cons _ _ ih => rw [List.length_cons, List.length_cons, ih]
/-- a < b of two keys -/
theorem key_lt {ks ls : List Key} {a b : Addr} (ha : (tupleKind (mixKind P w)).is s.heap ks a) (hb : (tupleKind (mixKind P w)).is s.heap ls b) (hu : A.units < cLine)
    (hc : ∀ (j : Nat) (x y : Key), ks[j]? = some x → ls[j]? = some y → x ≠ y → sameKind x y = true) : SeqAt.RcLt A s (.ref a) (.ref b) (lexK ks ls) := by
  obtain ⟨o, items, n, e1, e2, e3, e4⟩ := ha
  obtain ⟨o', items', n', e1', e2', e3', e4'⟩ := hb
  have l1 := items_len e4
  have l2 := items_len e4'
  rw [Array.length_toList] at l1 l2
  have key := SeqAt.RcLt.tuples (A := A) (s := s) (l := a) (b := b) (items := items) (items2 := items') (e := fun j => decide (ks[j]? = ls[j]?)) (r := fun j => ltKey (ks.getD j (.inl 0)) (ls.getD j (.inl 0)))
    ⟨o, e1, e2, n, e3⟩ ⟨o', e1', e2', n', e3'⟩ hu (fun j h1 h2 => ?_) (fun j h1 h2 he => ?_)
  · rw [l1, l2] at key
    rw [← firstK_eq]
    exact key
  · have hk : ks[j]? = some (ks[j]'(by omega)) := List.getElem?_eq_getElem _
    have hl : ls[j]? = some (ls[j]'(by omega)) := List.getElem?_eq_getElem _
    obtain ⟨u, q1, q2⟩ := item_at e4 hk
    obtain ⟨v, q3, q4⟩ := item_at e4' hl
    rw [Array.getElem?_toList, Array.getElem?_eq_getElem h1] at q1
    rw [Array.getElem?_toList, Array.getElem?_eq_getElem h2] at q3
    cases q1
    cases q3
    show SeqAt.EqAt _ _ _ _ (decide (ks[j]? = ls[j]?))
    rw [hk, hl]
    intro prog' w' E Q hq
    rcases keyIs_shape q2 with ⟨i, t, e5, e6⟩ | ⟨x, t, e5, e6⟩
    · rcases keyIs_shape q4 with ⟨i', t', e7, e8⟩ | ⟨x', t', e7, e8⟩
      · rw [e6, e8]
        refine SeqAt.EqAt.int_int i t i' t' prog' w' E Q ?_
        rw [e5, e7] at hq
        have : (i == i') = decide (some (Sum.inl i : Key) = some (Sum.inl i')) := by
          by_cases z : i = i' <;> simp [z]
        rw [this]
        exact hq
      · rw [e6, e8]
        refine SeqAt.EqAt.int_str i t x' t' prog' w' E Q ?_
        rw [e5, e7] at hq
        simpa using hq
    · rcases keyIs_shape q4 with ⟨i', t', e7, e8⟩ | ⟨x', t', e7, e8⟩
      · rw [e6, e8]
        refine SeqAt.EqAt.str_int x t i' t' prog' w' E Q ?_
        rw [e5, e7] at hq
        simpa using hq
      · rw [e6, e8]
        refine SeqAt.EqAt.str_str x t x' t' prog' w' E Q ?_
        rw [e5, e7] at hq
        have : (x == x') = decide (some (Sum.inr x : Key) = some (Sum.inr x')) := by
          by_cases z : x = x' <;> simp [z]
        rw [this]
        exact hq
  · have hk : ks[j]? = some (ks[j]'(by omega)) := List.getElem?_eq_getElem _
    have hl : ls[j]? = some (ls[j]'(by omega)) := List.getElem?_eq_getElem _
    have he' : ¬ ks[j]? = ls[j]? := of_decide_eq_false he
    obtain ⟨u, q1, q2⟩ := item_at e4 hk
    obtain ⟨v, q3, q4⟩ := item_at e4' hl
    rw [Array.getElem?_toList, Array.getElem?_eq_getElem h1] at q1
    rw [Array.getElem?_toList, Array.getElem?_eq_getElem h2] at q3
    cases q1
    cases q3
    have sk := hc j _ _ hk hl (fun z => he' (by rw [hk, hl, z]))
    show SeqAt.RcLt _ _ _ _ (ltKey (ks.getD j (.inl 0)) (ls.getD j (.inl 0)))
    rw [List.getD_eq_getElem?_getD, List.getD_eq_getElem?_getD, hk, hl]
    simp only [Option.getD_some]
    intro prog' w' E Q hq
    rcases keyIs_shape q2 with ⟨i, t, e5, e6⟩ | ⟨x, t, e5, e6⟩
    · rcases keyIs_shape q4 with ⟨i', t', e7, e8⟩ | ⟨x', t', e7, e8⟩
      · rw [e6, e8]
        rw [e5, e7] at hq
        exact HT.rcLt_int _ _ i t i' t' prog' w' E Q hq
      · rw [e5, e7] at sk
        cases sk
    · rcases keyIs_shape q4 with ⟨i', t', e7, e8⟩ | ⟨x', t', e7, e8⟩
      · rw [e5, e7] at sk
        cases sk
      · rw [e6, e8]
        rw [e5, e7] at hq
        exact (PyProof.Rows.lt_str hq : wpAny (model prog' w') A.in1 (compareOp .Lt (.str x t) (.str x' t')) Q E s)
end

/-! ### the items -/
/-- the j-th item is a pair of a key and some data -/
def ItemJ (P : Program) (w : World) (h : Heap) (p : Addr) (k : List Key) : Prop :=
  ∃ (b : Addr) (c : Value) (o : Obj) (n : Nat) (d : PyData) (as : List Addr), h.get? p = some o ∧ o.cls = .type "tuple" ∧ o.data = .seq #[.ref b, c] n ∧ (tupleKind (mixKind P w)).is h k b ∧ Reads h c d as ∧ SeqAt.shaped d = true
theorem ItemJ.keeps {P : Program} {w : World} {h h' : Heap} {p : Addr} {k : List Key} (x : ItemJ P w h p k) (kk : ∀ b o, h.get? b = some o → h'.get? b = some o) : ItemJ P w h' p k := by
  obtain ⟨b, c, o, n, d, as, e1, e2, e3, ⟨ob, it, m, e4, e5, e6, e7⟩, e8, e9⟩ := x
  exact ⟨b, c, o, n, d, as, kk _ _ e1, e2, e3, ⟨ob, it, m, kk _ _ e4, e5, e6, e7⟩, PyProof.Rows.Reads.keeps kk e8, e9⟩
/-- the keys rise -/
def RiseK (ks : List (List Key)) : Prop := ∀ (i j : Nat) (a b : List Key), i < j → ks[i]? = some a → ks[j]? = some b → lexK a b = true ∧ lexK b a = false ∧ a ≠ b ∧ ∀ (m : Nat) (x y : Key), a[m]? = some x → b[m]? = some y → x ≠ y → sameKind x y = true
theorem sameKind_comm {x y : Key} (h : sameKind x y = true) : sameKind y x = true := by
  cases x <;> cases y <;> first | rfl | cases h

def rkOf (Ts : Nat → Addr) (n : Nat) (v : Value) : Nat := match v with
  | .ref p => ((List.range n).find? fun j => decide (Ts j = p)).getD 0
  | _ => 0
theorem rkOf_at {Ts : Nat → Addr} {n j : Nat} (hj : j < n) (inj : ∀ i j, i < n → j < n → Ts i = Ts j → i = j) : rkOf Ts n (.ref (Ts j)) = j := by
  show ((List.range n).find? fun i => decide (Ts i = Ts j)).getD 0 = j
  cases e : (List.range n).find? fun i => decide (Ts i = Ts j) with
  | none =>
    have := List.find?_eq_none.mp e j (List.mem_range.mpr hj)
    simp at this
  | some i =>
    have h1 := List.find?_some e
    have h2 := List.mem_range.mp (List.mem_of_find?_eq_some e)
    exact inj i j h2 hj (of_decide_eq_true h1)

section
variable {P : Program} {w : World} {A : Around} {E : Value → Shared → Prop} {s : Shared}
theorem items_cmp {Ts : Nat → Addr} {ks : List (List Key)} (inj : ∀ i j, i < ks.length → j < ks.length → Ts i = Ts j → i = j) (hp : ∀ (j : Nat) (k : List Key), ks[j]? = some k → ItemJ P w s.heap (Ts j) k) (hr : RiseK ks) (hu : A.units + 70 < cLine) :
    SrtO.Cmp P w A s (tuples' false) (fun p => p.1 ∈ (List.range ks.length).map fun j => Value.ref (Ts j)) (SrtO.lt2 fun v u => decide (rkOf Ts ks.length v < rkOf Ts ks.length u)) := by
  intro p q hm hm'
  obtain ⟨i, hi, ei⟩ := List.mem_map.mp hm
  obtain ⟨j, hj, ej⟩ := List.mem_map.mp hm'
  have hi := List.mem_range.mp hi
  have hj := List.mem_range.mp hj
  show wpAny (model P w) A (keyLt' (tuples' false) p.1 q.1) (fun r s' => s' = s ∧ r = decide (rkOf Ts ks.length p.1 < rkOf Ts ks.length q.1)) (fun _ _ => False) s
  rw [← ei, ← ej, rkOf_at hi inj, rkOf_at hj inj]
  have gi : ks[i]? = some ks[i] := List.getElem?_eq_getElem hi
  have gj : ks[j]? = some ks[j] := List.getElem?_eq_getElem hj
  obtain ⟨b, c, o, n, d, as, e1, e2, e3, e4, e5, e6⟩ := hp i _ gi
  obtain ⟨b', c', o', n', d', as', e1', e2', e3', e4', e5', e6'⟩ := hp j _ gj
  refine PySem.W.kat_lt e1 e3 e1' e3' ?_
  show PySem.W.KatLex P w A false (decide (2 < 2)) _ [(.ref b, .ref b'), (c, c')] 0 s
  refine PySem.W.kat_cons ((tupleKind (mixKind P w)).eqBool (show A.units < cLine by omega) e4 e4' ?_)
  refine PySem.W.kat_go (fun z => ?_) (fun z => ?_)
  · have ez : ks[i] = ks[j] := of_decide_eq_true z
    have eij : i = j := by
      rcases Nat.lt_trichotomy i j with l | l | l
      · exact absurd ez (hr i j _ _ l gi gj).2.2.1
      · exact l
      · exact absurd ez.symm (hr j i _ _ l gj gi).2.2.1
    subst eij
    have eo := e1.symm.trans e1'
    cases eo
    have ed := e3.symm.trans e3'
    injection ed with ed _
    have ed2 : c = c' := by
      have := congrArg (fun a : Array Value => a[1]?) ed
      simpa using this
    subst ed2
    refine PySem.W.kat_yes (PySem.W.kat_cons (SeqAt.eqBoolOverData P w A _ s c c d d as as _ e5 e5 (SeqAt.canLay_of_shaped e6) (SeqAt.canLay_of_shaped e6) (by have := SeqAt.depth_of_shaped e6; rw [Nat.min_self]; omega) ?_))
    rw [SeqAt.eqv_refl d (SeqAt.canLay_of_shaped e6)]
    exact PySem.W.kat_yes (PySem.W.kat_nil ⟨rfl, by rw [decide_eq_false (Nat.lt_irrefl 2), decide_eq_false (Nat.lt_irrefl i)]⟩)
  · have ez : ¬ ks[i] = ks[j] := of_decide_eq_false z
    have nij : i ≠ j := fun e => ez (by subst e; rfl)
    refine PySem.W.kat_no (PySem.W.kat_one _ _ ?_)
    have key : lexK ks[i] ks[j] = decide (i < j) := by
      rcases Nat.lt_or_gt_of_ne nij with l | l
      · rw [(hr i j _ _ l gi gj).1, decide_eq_true l]
      · rw [(hr j i _ _ l gj gi).2.1, decide_eq_false (by omega)]
    have sk : ∀ (m : Nat) (x y : Key), (ks[i])[m]? = some x → (ks[j])[m]? = some y → x ≠ y → sameKind x y = true := fun m x y h1 h2 h3 => by
      rcases Nat.lt_or_gt_of_ne nij with l | l
      · exact (hr i j _ _ l gi gj).2.2.2 m x y h1 h2 h3
      · exact sameKind_comm ((hr j i _ _ l gj gi).2.2.2 m y x h2 h1 (fun e => h3 e.symm))
    refine (key_lt (A := A) e4 e4' (by omega) sk P w (fun _ _ => False) _ ?_ : wpAny (model P w) A (compareOp .Lt (.ref b) (.ref b')) _ (fun _ _ => False) s)
    rw [key]
    exact ⟨rfl, rfl⟩

theorem firsts_pairs {h : Heap} {Ts : Nat → Addr} : ∀ (l : List Nat) , (∀ j ∈ l, ∃ (b : Addr) (c : Value) (o : Obj) (n : Nat), h.get? (Ts j) = some o ∧ o.cls = .type "tuple" ∧ o.data = .seq #[.ref b, c] n ∧ ∃ ob, h.get? b = some ob ∧ ob.cls = .type "tuple") →
    ∃ fs : List Value, PySem.W.KatTups h (l.map fun j => .ref (Ts j)) fs ∧ fs.length = l.length ∧ ∀ f ∈ fs, ∃ b ob, f = Value.ref b ∧ h.get? b = some ob ∧ ob.cls = .type "tuple"
  | [], _ => ⟨[], PySem.W.KatTups.nil, rfl, fun _ hm => by simp at hm⟩
  | j :: l, hp => by
    obtain ⟨fs, h1, h2, h3⟩ := firsts_pairs l fun i hi => hp i (List.mem_cons_of_mem _ hi)
    obtain ⟨b, c, o, n, e1, e2, e3, ob, e4, e5⟩ := hp j List.mem_cons_self
    refine ⟨.ref b :: fs, PySem.W.KatTups.cons e1 e2 e3 rfl h1, by rw [List.length_cons, List.length_cons, h2], fun f hm => ?_⟩
    rcases List.mem_cons.mp hm with rfl | hm
    · exact ⟨b, ob, rfl, e4, e5⟩
    · exact h3 f hm

theorem sorted_rising {l : Addr} {Ts : Nat → Addr} {ks : List (List Key)} {Q : Value → Shared → Prop} (hl : s.heap.IsList l ((List.range ks.length).map fun j => Value.ref (Ts j)).toArray) (hz : ks.length ≤ sizeLine)
    (inj : ∀ i j, i < ks.length → j < ks.length → Ts i = Ts j → i = j) (hp : ∀ (j : Nat) (k : List Key), ks[j]? = some k → ItemJ P w s.heap (Ts j) k) (hr : RiseK ks) (hu : A.units + 72 < cLine)
    (h : ∀ (h' : Heap) (d : Addr), (∀ b o, s.heap.get? b = some o → h'.get? b = some o) → s.heap.objs.size ≤ d → (∃ n, h'.get? d = some (seqObj "list" ((List.range ks.length).map fun j => Value.ref (Ts j)).toArray n)) → Q (.ref d) { s with heap := h' }) :
    wpAny (model P w) A (call (.builtin "sorted") [.ref l]) Q E s := by
  have swo : SrtO.Swo (fun v u => decide (rkOf Ts ks.length v < rkOf Ts ks.length u)) := ⟨fun x y q => by
    have := of_decide_eq_true q
    exact decide_eq_false (by omega), fun x y z q1 q2 => by
    have a1 := of_decide_eq_false q1
    have a2 := of_decide_eq_false q2
    exact decide_eq_false (by omega)⟩
  refine SrtO.sorted_ord swo hl (by simpa using hz) (fun h2 h₁ a ha kk h' keep => ?_) fun out hs hb => ?_
  · have hk : ∀ b o, s.heap.get? b = some o → h'.get? b = some o := fun b o e => keep b o (kk b o e).1 (kk b o e).2
    have hp' : ∀ (j : Nat) (k : List Key), ks[j]? = some k → ItemJ P w h' (Ts j) k := fun j k e => (hp j k e).keeps hk
    refine ⟨tuples' false, fun Q E hq => ?_, items_cmp (s := { s with heap := h' }) inj hp' hr (by show A.units + 1 + 1 + 70 < cLine; omega)⟩
    obtain ⟨fs, f1, f2, f3⟩ := firsts_pairs (h := h') (Ts := Ts) (List.range ks.length) fun j hj => by
      have hj := List.mem_range.mp hj
      obtain ⟨b, c, o, n, d, as, e1, e2, e3, ⟨ob, it, m, e4, e5, _⟩, _⟩ := hp' j _ (List.getElem?_eq_getElem hj)
      exact ⟨b, c, o, n, e1, e2, e3, ob, e4, e5⟩
    have hlen : 0 < fs.length := by
      rw [f2]
      simp only [List.length_map, List.length_range] at h2 ⊢
      omega
    refine PySem.W.kat_kind (T := .type "tuple") f1 hlen (fun f hm => ?_) (by rfl) ?_
    · obtain ⟨b, ob, rfl, e4, e5⟩ := f3 f hm
      rw [← e5]
      exact (PySem.W.Looks.ld e4).andThen .now
    · have e : (Value.type "tuple" != Value.type "tuple") = false := by first | decide +kernel | rfl | decide
      rw [e]
      exact hq
  · have srt : SrtO.Srtd (fun v u => decide (rkOf Ts ks.length v < rkOf Ts ks.length u)) ((List.range ks.length).map fun j => Value.ref (Ts j)) := by
      refine List.pairwise_map.mpr ?_
      refine List.Pairwise.imp_of_mem (R := fun i j => i < j) (fun {i j} hi hj hij => ?_) List.pairwise_lt_range
      have hi := List.mem_range.mp hi
      have hj := List.mem_range.mp hj
      show decide (rkOf Ts ks.length (Value.ref (Ts j)) < rkOf Ts ks.length (Value.ref (Ts i))) = false
      rw [rkOf_at hi inj, rkOf_at hj inj]
      exact decide_eq_false (by omega)
    have eo := SrtO.stb_uniq swo hs srt hb
    subst eo
    exact h _ _ (fun b o e => sortedAll_old e) (Nat.le_succ _) (sortedAll_at s.heap _ _)
end

section
variable {X : Cx}
/-- sorted(xs), the keys of the pairs rising already: a new list of the same -/
def rSortedR (K : PySem.W.Frag) : List V → Hp → VK → Prop := fun xs H Q => ∃ (a : Addr) (vs : List V) (kvs : List (List Key × V)), xs = [.ref a] ∧ SqL K H a vs ∧ PairsR K H vs kvs ∧ (∀ kv ∈ kvs, ∃ d, Dp K H kv.2 d ∧ SeqAt.shaped d = true) ∧ RiseK (kvs.map (·.1)) ∧
  ∀ p, H p = none → Q (.ref p) (upd H p (.lst vs))
theorem cr_sortedR (hu : X.A.units + 72 < cLine) : CallR X (.builtin "sorted") (rSortedR X.K) := by
  intro pins s σ H xs us Q I r h
  obtain ⟨a, vs, kvs, rfl, hs, hp, hd, hr, q⟩ := h
  rw [Vals.ref1 r]
  obtain ⟨its, rv, hl, hz⟩ := I.list hs
  obtain ⟨ps, Ts, kt, hlen, hit⟩ := pairs_read I hp rv
  have hkl : (kvs.map (·.1)).length = its.length := by
    rw [List.length_map, hlen]
    exact Paired.length kt
  have e1 : its = (List.range (kvs.map (·.1)).length).map fun j => Value.ref (Ts j) := by
    apply List.ext_getElem?
    intro j
    rw [List.getElem?_map, hkl]
    by_cases hj : j < its.length
    · rw [List.getElem?_range hj]
      have hj' : j < ps.length := by omega
      rw [(hit j _ (List.getElem?_eq_getElem hj')).1]
      rfl
    · rw [List.getElem?_eq_none (by omega), List.getElem?_eq_none (by simp; omega)]
      rfl
  have hkeys := KT.keys kt
  have rel : ∀ {l : List (List Key × V)} {m : List (List Key × Addr × Value)}, KT H l m → ∀ x ∈ m, ∃ y ∈ l, RelV y.2 x.2.2 := by
    intro l m z
    induction z with
    | nil => intro x hx; cases hx
    | @cons p q' ps qs hq t ih =>
      intro x hx
      rcases List.mem_cons.mp hx with e | hx
      · subst e; exact ⟨p, List.mem_cons_self, hq.2.2⟩
      · obtain ⟨y, h1, h2⟩ := ih x hx
        exact ⟨y, List.mem_cons_of_mem _ h1, h2⟩
  have key1 : ∀ (j : Nat) (k : List Key), (kvs.map (·.1))[j]? = some k → ∃ x, ps[j]? = some x ∧ x.1 = k := fun j k e => by
    rw [hkeys, List.getElem?_map] at e
    obtain ⟨x, h1, h2⟩ := Option.map_eq_some_iff.mp e
    exact ⟨x, h1, h2⟩
  have hp' : ∀ (j : Nat) (k : List Key), (kvs.map (·.1))[j]? = some k → ItemJ X.prog X.w s.heap (Ts j) k := fun j k e => by
    obtain ⟨x, hx, rfl⟩ := key1 j k e
    obtain ⟨h1, o, ho, hc, n, hdt⟩ := hit j x hx
    obtain ⟨y, hy, ry⟩ := rel kt x (List.mem_of_getElem? hx)
    obtain ⟨d, hdp, sd⟩ := hd y hy
    obtain ⟨as, rr⟩ := Dp.reads I d _ _ hdp ry
    exact ⟨x.2.1, x.2.2, o, n, d, as, ho, hc, hdt, key_of I.hok (KT.mem kt x (List.mem_of_getElem? hx)), rr, sd⟩
  have inj : ∀ i j, i < (kvs.map (·.1)).length → j < (kvs.map (·.1)).length → Ts i = Ts j → i = j := fun i j hi hj e => by
    have hi' : i < ps.length := by omega
    have hj' : j < ps.length := by omega
    obtain ⟨_, o, ho, _, n, hdt⟩ := hit i _ (List.getElem?_eq_getElem hi')
    obtain ⟨_, o', ho', _, n', hdt'⟩ := hit j _ (List.getElem?_eq_getElem hj')
    rw [e, ho'] at ho
    cases ho
    rw [hdt'] at hdt
    injection hdt with hdt _
    have eb : (ps[i]).2.1 = (ps[j]).2.1 := by
      have := congrArg (fun a : Array Value => a[0]?) hdt
      simp only [List.getElem?_toArray, List.getElem?_cons_zero, Option.some.injEq, Value.ref.injEq] at this
      exact this.symm
    have k1 := KT.mem kt _ (List.getElem_mem hi')
    have k2 := KT.mem kt _ (List.getElem_mem hj')
    rw [eb, k2] at k1
    have ek := kVs_inj (HO.tup.inj (Option.some.inj k1))
    have g1 : (kvs.map (·.1))[i]? = some (ps[i]).1 := by rw [hkeys, List.getElem?_map, List.getElem?_eq_getElem hi']; rfl
    have g2 : (kvs.map (·.1))[j]? = some (ps[j]).1 := by rw [hkeys, List.getElem?_map, List.getElem?_eq_getElem hj']; rfl
    rcases Nat.lt_trichotomy i j with l | l | l
    · exact absurd ek.symm (hr i j _ _ l g1 g2).2.2.1
    · exact l
    · exact absurd ek (hr j i _ _ l g2 g1).2.2.1
  refine sorted_rising (Ts := Ts) (ks := kvs.map (·.1)) (by rw [← e1]; exact hl.isList) (by rw [hkl, ← rv.length]; exact hz) inj hp' hr hu fun h' d k hd' hn => ?_
  rw [← e1] at hn
  obtain ⟨n, hn⟩ := hn
  have hf : H d = none := I.hok.fresh hd'
  exact ⟨.ref d, _, I.laid (t' := s.toks) (o := .lst vs) k hd' ⟨hz, its, n, rv, hn⟩, rfl, q _ hf⟩
end
end K98

/-! ## Low5 -/
/-! zip(list, tuple); enumerate(tuple). -/
namespace K98
open PySem PySem.Spec PyProof.Rows L2

/-! ### enumerate(tuple) -/
theorem meets_enumT (t : Addr) (items : Array Value) :
    Meets (Builtin.«enumerate.__new__» ⟨[.type "enumerate", .ref t], []⟩) (fun _ R s => s.heap.IsTuple t items ∧
      R (.ok (.ret (.ref (s.heap.push { cls := .type "tuple_iterator", data := .fields #[.ref t, .int 0 0] }).objs.size)))
        { s with heap := (s.heap.push { cls := .type "tuple_iterator", data := .fields #[.ref t, .int 0 0] }).push { cls := .type "enumerate", data := .fields #[.none, .bool false, .ref s.heap.objs.size, rawInt 0, .none, .none] } }) :=
  .of_wp fun prog w A R s h => by
    obtain ⟨hp, g, d, tk, os⟩ := s; obtain ⟨hL, h⟩ := h
    have hsub := sub_enumerate
    have q1 : ∀ {A' : Around} {E : Value → Shared → Prop} {Q : Value → Shared → Prop}, Q (.ref hp.objs.size) ⟨(hp.push { cls := .type "tuple_iterator", data := .fields #[.ref t, .int 0 0] }), g, d, tk, os⟩ → wpAny (model prog w) A' (pyIter (.ref t)) Q E ⟨hp, g, d, tk, os⟩ :=
      fun q => wpAny_pyIter_tuple (s := ⟨hp, g, d, tk, os⟩) hL q
    wp_walk using q1
    refine wpAny_stack_any fun st => wpAny_pure ?_
    split
    · rename_i c _ _ _ _ _
      cases (c == Value.type "enumerate")
      · wp_walk using q1
        exact ⟨_, rfl, h⟩
      · wp_walk using q1
        exact ⟨_, rfl, h⟩
    · wp_walk using q1
      exact ⟨_, rfl, h⟩
section
variable {prog : Program} {w : World} {A : Around} {E : Value → Shared → Prop} {s : Shared}
theorem call_enumT {t : Addr} {items : Array Value} {Q : Value → Shared → Prop} (hL : s.heap.IsTuple t items)
    (h : ∀ h', IsEnum h' (s.heap.objs.size + 1) s.heap.objs.size 0 .none → h'.IsTupleIter s.heap.objs.size t 0 → h'.objs.size = s.heap.objs.size + 2 →
      (∀ b o, s.heap.get? b = some o → h'.get? b = some o) → Q (.ref (s.heap.objs.size + 1)) { s with heap := h' }) :
    wpAny (model prog w) A (call (.type "enumerate") [.ref t]) Q E s := by
  refine callType_new F.called_enumerate (by decide) (F.typeCall_enumerate_1 _) (F.newCall_enumerate_1 _) (fun obj => F.args_object_init_2 obj _) F.entry_enumerate_new
    (meets_enumT t items) ⟨hL, ?_⟩
  have hz : (s.heap.push { cls := .type "tuple_iterator", data := .fields #[.ref t, .int 0 0] }).objs.size = s.heap.objs.size + 1 := Heap.size_push ..
  show _ ∧ _
  rw [hz]
  have he : IsEnum ((s.heap.push { cls := .type "tuple_iterator", data := .fields #[.ref t, .int 0 0] }).push
      { cls := .type "enumerate", data := .fields #[.none, .bool false, .ref s.heap.objs.size, rawInt 0, .none, .none] }) (s.heap.objs.size + 1) s.heap.objs.size 0 .none := by
    have := Heap.get?_push_size (s.heap.push { cls := .type "tuple_iterator", data := .fields #[.ref t, .int 0 0] })
      (o := { cls := .type "enumerate", data := .fields #[.none, .bool false, .ref s.heap.objs.size, rawInt 0, .none, .none] }) rfl
    rw [hz] at this; exact this
  refine ⟨⟨_, he, rfl⟩, h _ he ⟨_, Heap.get?_push_of_some _ (Heap.get?_push_size _ rfl), rfl, rfl⟩ (by rw [Heap.size_push, hz]) fun b o x => Heap.get?_push_of_some _ (Heap.get?_push_of_some _ x)⟩
end
/-- the tuple at a, each item in a new pair with its place -/
def IteT (K : PySem.W.Frag) (a : Addr) : It :=
  ⟨fun i H => ∃ (xs : List V) (x : V), SqT K H a xs ∧ xs[i]? = some x, fun i H v H' => ∃ T x, v = .ref T ∧ H T = none ∧ H' = upd H T (.tup [.int (i : Nat), x]) ∧ ∀ xs, SqT K H a xs → xs[i]? = some x, fun i H => ∃ xs : List V, SqT K H a xs ∧ xs.length ≤ i⟩
theorem turn_enumT {P : Program} {w : World} {K : PySem.W.Frag} {elts : List Expr} {kk : Nat} {tpos : Pos} (a e it : Addr) (hae : a ≠ it) (hea : e ≠ a) :
    Turn P w K (.Tuple elts kk tpos) (IteT K a) [e, it] e (fun i h => (∃ old, IsEnum h e it ((i : Nat) : Int) old) ∧ h.IsTupleIter it a i ∧ e ≠ it) where
  mem := by simp
  obj := fun i h st b hb => by
    obtain ⟨⟨old, he⟩, ⟨o, ho, hc, hd⟩, _⟩ := st
    have e' : b = e ∨ b = it := by simpa using hb
    rcases e' with z | z
    · rw [z]; exact ⟨_, he, fun v q => nomatch q⟩
    · rw [z]; exact ⟨o, ho, fun v q => by rw [hd] at q; cases q⟩
  keep := fun i h h' st k => let ⟨⟨old, he⟩, hi, hne⟩ := st; ⟨⟨old, k e (by simp) _ he⟩, hi.at fun o q => k it (by simp) o q, hne⟩
  item := by
    intro X hP hw hK hc i pins s σ H E I hf st hg
    subst hP hw hK
    obtain ⟨⟨old, he⟩, hit, hne⟩ := st
    obtain ⟨xs, x, hq, hx⟩ := hg
    obtain ⟨its, rv, p, hz⟩ := I.tuple hq
    obtain ⟨u, hu, ru⟩ := rv.get hx
    have hel : e < s.heap.objs.size := Heap.lt_size he
    have hil : it < s.heap.objs.size := by obtain ⟨_, q, _⟩ := hit; exact Heap.lt_size q
    have hi : i < its.toArray.size := by
      have := (List.getElem?_eq_some_iff.mp hu).1
      simpa using this
    refine wpAny_pyNext_enum_itemD (Draws.tuple (A := X.A.in1) (I.ok.hd hc) it a hae its.toArray) he ⟨hit, p⟩ hi hne (by simp; exact ⟨hne, hea⟩) fun x' h' tk hP ho hst hT hsz hk => ?_
    obtain ⟨hit', _⟩ := hst
    have ex : x' = u := by
      have : its.toArray[i]? = some x' := hP
      rw [List.getElem?_toArray, hu] at this
      exact (Option.some.inj this).symm
    subst ex
    refine ⟨_, rfl, wpAny_letOwnedTupleGo_enum (s := { s with heap := h', toks := tk + 1 }) ho fun h'' he' sb => ?_⟩
    have hT2 : h''.get? s.heap.objs.size = some { cls := .type "tuple", data := .seq #[.int i tk, x'] } := (sb.2 _ (Nat.ne_of_gt hel)).trans hT
    have new : ObjOk X.prog X.w (upd H s.heap.objs.size (.tup [.int (i : Nat), x])) h'' s.heap.objs.size (.tup [.int (i : Nat), x]) :=
      ⟨by show 2 ≤ sizeLine; decide, [.int i tk, x'], .cons ⟨_, rfl⟩ (.cons ru .nil), ⟨_, hT2, rfl, _, rfl⟩⟩
    have I1 : Inv X pins σ (upd H s.heap.objs.size (.tup [.int (i : Nat), x])) { s with heap := h'', toks := tk + 1 } :=
      I.turnedNew (ch := [e, it]) (fun b ob hb q => (sb.2 b (fun z => hb (by simp [z]))).trans (hk b ob (fun z => hb (by simp [z])) (fun z => hb (by simp [z])) q)) hf (Nat.le_refl _) new
    refine ⟨.ref s.heap.objs.size, _, I1, rfl, ⟨_, x, rfl, I.hok.fresh (Nat.le_refl _), rfl, fun ys hy => by rw [I.tuple_inj hy hq]; exact hx⟩, ⟨⟨x', ?_⟩, hit'.at fun o q => (sb.2 it (Ne.symm hne)).trans q, hne⟩, fun b hb => ?_⟩
    · have e1 : ((i + 1 : Nat) : Int) = (i : Int) + 1 := by omega
      rw [e1]; exact he'
    · have hb' : b < s.heap.objs.size := by
        have e' : b = e ∨ b = it := by simpa using hb
        rcases e' with z | z
        · rw [z]; exact hel
        · rw [z]; exact hil
      rw [upd_ne (Nat.ne_of_lt hb')]
      exact (hf b hb).1
  done := by
    intro X hP hw hK hc i pins s σ H E I hf st hg
    subst hP hw hK
    obtain ⟨⟨old, he⟩, hit, hne⟩ := st
    obtain ⟨xs, hq, hx⟩ := hg
    obtain ⟨its, rv, p, hz⟩ := I.tuple hq
    obtain ⟨f0, f1, f2, f3, f4, f5⟩ := hf it (by simp)
    have hl := rv.length
    have D : Draws X.prog X.w X.A.in1 it [it, a] i (fun _ _ => True) (fun j h => j = i ∧ h.IsTupleIter it a i ∧ h.IsTuple a its.toArray) :=
      ⟨fun _ _ st => let ⟨o, ho, _⟩ := st.2.1; ⟨o, ho⟩, fun _ _ _ st hk => ⟨st.1, st.2.1.at fun o e => hk it (by simp) o e, st.2.2.at fun o e => hk a (by simp) o e⟩,
        fun j s' Q E' hj st' hQ => absurd st'.1 (Nat.ne_of_lt hj), fun s' Q E' st' hE => wpAny_nextOf_tuple_end (I.ok.hd hc) st'.2.1 st'.2.2 (by simp; omega) hE⟩
    exact wpAny_pyNext_enum_endD D he ⟨rfl, hit, p⟩ fun h' eb => ⟨rfl, I.turned (t' := s.toks) (fun b o hb q => eb b o hb q) f0 f1 f3 f4 f5⟩
  self := fun A i s Q E st h => let ⟨⟨_, he⟩, _⟩ := st; wpAny_pyIter_enum he h
def iEnumT (K : PySem.W.Frag) (ta : TA) : TI := fun σ H R => ta σ H fun vs H1 => ∃ a xs, vs = [.ref a] ∧ SqT K H1 a xs ∧ R (IteT K a) H1
theorem pi_enumT {X : Cx} {e : Expr} {ta : TA} {p pos tpos : Pos} {elts : List Expr} {kk : Nat} (hg : Gl X "enumerate") (hm : X.mg "enumerate" = none) (ha : PA X [e] ta) (hs : starEach [e] X.env = [(false, eval e X.env)] := by rfl) :
    PI X (.Tuple elts kk tpos) (.Call (.Name "enumerate" p) [e] [] pos) (iEnumT X.K ta) := by
  refine ⟨fun pins s σ H R I h => ?_⟩
  refine Call_ (ld_blt I hg hm boot_enumerate (PyProof.Rows.callWith_type1 (thn (ha.run pos pins s σ H _ I h) fun us s1 ⟨vs, H1, I1, r1, q1⟩ => ?_) hs rfl))
  obtain ⟨a, xs, ex, hq, q⟩ := q1
  subst ex
  cases r1 with
  | cons r rr =>
    cases rr
    cases r
    obtain ⟨its, rv, p', hz⟩ := I1.tuple hq
    have la : a < s1.heap.objs.size := by obtain ⟨_, y, _⟩ := id p'; exact Heap.lt_size y
    refine call_enumT (show s1.heap.IsTuple a its.toArray from p') fun h' he hit hsz hk => wpAny_pyIter_enum he ?_
    have I2 : Inv X pins σ H1 { s1 with heap := h' } := I1.kept (t' := s1.toks) hk
    refine ⟨s1.heap.objs.size + 1, [s1.heap.objs.size + 1, s1.heap.objs.size], _, _, H1, rfl, I2, turn_enumT a (s1.heap.objs.size + 1) s1.heap.objs.size (Nat.ne_of_lt la) (Nat.ne_of_gt (Nat.lt_succ_of_lt la)), ⟨⟨.none, he⟩, hit, Nat.succ_ne_self _⟩, fun b hb => ?_, q⟩
    have e' : b = s1.heap.objs.size + 1 ∨ b = s1.heap.objs.size := by simpa using hb
    have hle : s1.heap.objs.size ≤ b := by
      rcases e' with z | z
      · rw [z]; exact Nat.le_add_right _ _
      · rw [z]; exact Nat.le_refl _
    exact I1.fpOk hle (I1.hok.fresh hle)
theorem walk_enumT {K : PySem.W.Frag} {a : Addr} {xs : List V} : Walk (IteT K a) xs.length (fun H => SqT K H a xs) (YPair (fun i => some (.int (i : Nat))) (fun i => xs[i]?)) := by
  refine ⟨fun i _ hi q => ⟨xs, xs[i], q, by simp [hi]⟩, fun _ q => ⟨xs, q, Nat.le_refl _⟩, fun i H v H' _ q y => ?_⟩
  obtain ⟨T, x, h1, h2, h3, h4⟩ := y
  exact ⟨T, .int (i : Nat), x, h1, h2, h3, rfl, h4 xs q⟩

/-! ### zip(list, tuple) -/
/-- the list at a and the tuple at b as they stand at each turn, the items in new pairs -/
def ItzL (K : PySem.W.Frag) (a b : Addr) : It :=
  ⟨fun i H => ∃ (xs ys : List V) (x y : V), SqL K H a xs ∧ SqT K H b ys ∧ xs[i]? = some x ∧ ys[i]? = some y,
    fun i H v H' => ∃ T x y, v = .ref T ∧ H T = none ∧ H' = upd H T (.tup [x, y]) ∧ (∀ xs, SqL K H a xs → xs[i]? = some x) ∧ ∀ ys, SqT K H b ys → ys[i]? = some y,
    fun i H => ∃ xs ys : List V, SqL K H a xs ∧ SqT K H b ys ∧ i ≤ xs.length ∧ i ≤ ys.length ∧ (xs.length = i ∨ ys.length = i)⟩
theorem turn_zipL {P : Program} {w : World} {K : PySem.W.Frag} {elts : List Expr} {kk : Nat} {tpos : Pos} {a b z TI TO i1 i2 : Addr} (D : ZipApart z TI TO i1 i2 a b) :
    Turn P w K (.Tuple elts kk tpos) (ItzL K a b) [z, TI, TO, i1, i2] z (fun i h => IsZip h z TI TO .none ∧ IsPair h TI (.ref i1) (.ref i2) ∧ (∃ x y, IsPair h TO x y) ∧ h.IsListIter i1 a i ∧ h.IsTupleIter i2 b i) where
  mem := by simp
  obj := fun i h st c hc => by
    obtain ⟨hz, hTI, ⟨x, y, hTO⟩, ⟨o1, e1, _, d1⟩, ⟨o2, e2, _, d2⟩⟩ := st
    have e' : c = z ∨ c = TI ∨ c = TO ∨ c = i1 ∨ c = i2 := by simpa using hc
    rcases e' with q | q | q | q | q
    · rw [q]; exact ⟨_, hz, fun v q => nomatch q⟩
    · rw [q]; exact ⟨_, hTI, fun v q => nomatch q⟩
    · rw [q]; exact ⟨_, hTO, fun v q => nomatch q⟩
    · rw [q]; exact ⟨o1, e1, fun v q => by rw [d1] at q; cases q⟩
    · rw [q]; exact ⟨o2, e2, fun v q => by rw [d2] at q; cases q⟩
  keep := fun i h h' st k => by
    obtain ⟨hz, hTI, ⟨x, y, hTO⟩, h1, h2⟩ := st
    exact ⟨k z (by simp) _ hz, k TI (by simp) _ hTI, ⟨x, y, k TO (by simp) _ hTO⟩, h1.at fun o q => k i1 (by simp) o q, h2.at fun o q => k i2 (by simp) o q⟩
  item := by
    intro X hP hw hK hc i pins s σ H E I hf st hg
    subst hP hw hK
    obtain ⟨hz, hTI, ⟨x0, y0, hTO⟩, h1, h2⟩ := st
    obtain ⟨xs, ys, x, y, hqx, hqy, hx, hy⟩ := hg
    obtain ⟨its, rv, p, _⟩ := I.list hqx
    obtain ⟨its2, rv2, p2, _⟩ := I.tuple hqy
    obtain ⟨u, hu, ru⟩ := rv.get hx
    obtain ⟨u2, hu2, ru2⟩ := rv2.get hy
    have hzl : z < s.heap.objs.size := Heap.lt_size hz
    have hi1 : i < its.toArray.size := by have := (List.getElem?_eq_some_iff.mp hu).1; simpa using this
    have hi2 : i < its2.toArray.size := by have := (List.getElem?_eq_some_iff.mp hu2).1; simpa using this
    have S : ZipSep2 z TI TO i1 i2 [i1, a] [i2, b] := by
      obtain ⟨d1, d2, d3, d4, d5, d6, d7, d8, d9, d10, d11, d12, d13, d14, d15, d16, d17, d18⟩ := D
      exact ⟨d1, d2, d5, d6, by simp, by simp [d3.symm, d11.symm], by simp [d8, d12.symm], d7, by simp, by simp [d4.symm, d15.symm], by simp [d9, d16.symm], by simp [d10, d17.symm], by simp [d10.symm, d14.symm]⟩
    refine wpAny_pyNext_zipD2_item S (Draws.list (A := X.A.in1) (I.ok.hd hc) i1 a D.l1i1 its.toArray) (Draws.tuple (A := X.A.in1) (I.ok.hd hc) i2 b D.l2i2 its2.toArray) hz hTI hTO ⟨h1, p.isList⟩ ⟨h2, p2⟩ hi1 hi2 fun x1 x2 h' tk P1 P2 z' TO' st1 st2 hT hsz hk => ?_
    obtain ⟨h1', _⟩ := st1
    obtain ⟨h2', _⟩ := st2
    have ex1 : x1 = u := by
      have : its.toArray[i]? = some x1 := P1
      rw [List.getElem?_toArray, hu] at this
      exact (Option.some.inj this).symm
    have ex2 : x2 = u2 := by
      have : its2.toArray[i]? = some x2 := P2
      rw [List.getElem?_toArray, hu2] at this
      exact (Option.some.inj this).symm
    subst ex1 ex2
    refine ⟨_, rfl, wpAny_letOwnedTupleGo_zip (s := { s with heap := h', toks := tk }) z' fun h'' z'' sb => ?_⟩
    have hT2 : h''.get? s.heap.objs.size = some { cls := .type "tuple", data := .seq #[x1, x2] } := (sb.2 _ (Nat.ne_of_gt hzl)).trans hT
    have new : ObjOk X.prog X.w (upd H s.heap.objs.size (.tup [x, y])) h'' s.heap.objs.size (.tup [x, y]) :=
      ⟨by show 2 ≤ sizeLine; decide, [x1, x2], .cons ru (.cons ru2 .nil), ⟨_, hT2, rfl, _, rfl⟩⟩
    have I1 : Inv X pins σ (upd H s.heap.objs.size (.tup [x, y])) { s with heap := h'', toks := tk } :=
      I.turnedNew (t' := tk) (ch := [z, TI, TO, i1, i2]) (fun c o hb q => (sb.2 c (fun q' => hb (by simp [q']))).trans (hk c o (fun q' => hb (by simp [q'])) (fun q' => hb (by simp [q'])) (fun q' => hb (by simp [q'])) (fun q' => hb (by simp [q'])) q)) hf (Nat.le_refl _) new
    refine ⟨.ref s.heap.objs.size, _, I1, rfl, ⟨_, x, y, rfl, I.hok.fresh (Nat.le_refl _), rfl, fun l hl => by rw [I.list_inj hl hqx]; exact hx, fun l hl => by rw [I.tuple_inj hl hqy]; exact hy⟩, ⟨z'', ?_, ⟨x1, x2, ?_⟩, ?_, ?_⟩, fun c hcm => ?_⟩
    · exact (sb.2 _ D.TIz).trans (hk _ _ D.TIz D.TITO D.TIi1 D.TIi2 hTI)
    · exact (sb.2 _ D.TOz).trans TO'
    · exact h1'.at fun o q => (sb.2 _ D.i1z).trans q
    · exact h2'.at fun o q => (sb.2 _ D.i2z).trans q
    · have hlt : c < s.heap.objs.size := by
        have e' : c = z ∨ c = TI ∨ c = TO ∨ c = i1 ∨ c = i2 := by simpa using hcm
        rcases e' with q | q | q | q | q
        · rw [q]; exact hzl
        · rw [q]; exact Heap.lt_size hTI
        · rw [q]; exact Heap.lt_size hTO
        · rw [q]; obtain ⟨_, e1, _⟩ := h1; exact Heap.lt_size e1
        · rw [q]; obtain ⟨_, e2, _⟩ := h2; exact Heap.lt_size e2
      rw [upd_ne (Nat.ne_of_lt hlt)]
      exact (hf c hcm).1
  done := by
    intro X hP hw hK hc i pins s σ H E I hf st hg
    subst hP hw hK
    obtain ⟨hz, hTI, ⟨x0, y0, hTO⟩, h1, h2⟩ := st
    obtain ⟨xs, ys, hqx, hqy, hl1, hl2, hend⟩ := hg
    obtain ⟨its, rv, p, _⟩ := I.list hqx
    obtain ⟨its2, rv2, p2, _⟩ := I.tuple hqy
    have l1 := rv.length
    have l2 := rv2.length
    have S : ZipSep2 z TI TO i1 i2 [i1, a] [i2, b] := by
      obtain ⟨d1, d2, d3, d4, d5, d6, d7, d8, d9, d10, d11, d12, d13, d14, d15, d16, d17, d18⟩ := D
      exact ⟨d1, d2, d5, d6, by simp, by simp [d3.symm, d11.symm], by simp [d8, d12.symm], d7, by simp, by simp [d4.symm, d15.symm], by simp [d9, d16.symm], by simp [d10, d17.symm], by simp [d10.symm, d14.symm]⟩
    exact wpAny_pyNext_zipD2_end S (Draws.list (A := X.A.in1) (I.ok.hd hc) i1 a D.l1i1 its.toArray) (Draws.tuple (A := X.A.in1) (I.ok.hd hc) i2 b D.l2i2 its2.toArray) hz hTI hTO ⟨h1, p.isList⟩ ⟨h2, p2⟩ (by simp; omega) (by simp; omega) (by simp; omega)
      fun h' tk hk => ⟨rfl, I.turnedL (t' := tk) (ch := [z, TI, TO, i1, i2]) (fun c o hb q =>
        hk c o (fun q' => hb (by simp [q'])) (fun q' => hb (by simp [q'])) (fun q' => hb (by simp [q'])) (fun q' => hb (by simp [q'])) q) hf⟩
  self := fun A i s Q E st h => wpAny_pyIter_zip st.1 h
def iZipL (K : PySem.W.Frag) (ta : TA) : TI := fun σ H R => ta σ H fun vs H1 => ∃ a b xs ys, vs = [.ref a, .ref b] ∧ SqL K H1 a xs ∧ SqT K H1 b ys ∧ R (ItzL K a b) H1
theorem pi_zipL {X : Cx} {e e2 : Expr} {ta : TA} {p pos tpos : Pos} {elts : List Expr} {kk : Nat} (hg : Gl X "zip") (hm : X.mg "zip" = none) (ha : PA X [e, e2] ta)
    (hs : starEach [e, e2] X.env = (false, eval e X.env) :: starEach [e2] X.env := by rfl) (hpl : (backTo pos (starEach [e2] X.env)).any (·.1) = false := by rfl) :
    PI X (.Tuple elts kk tpos) (.Call (.Name "zip" p) [e, e2] [] pos) (iZipL X.K ta) := by
  refine ⟨fun pins s σ H R I h => ?_⟩
  refine Call_ (ld_blt I hg hm PyProof.Rows.boot_zip (PyProof.Rows.callWith_type1 (thn (ha.run pos pins s σ H _ I h) fun us s1 ⟨vs, H1, I1, r1, q1⟩ => ?_) hs hpl))
  obtain ⟨a, b, xs, ys, ex, hqx, hqy, q⟩ := q1
  subst ex
  cases r1 with
  | cons r rr =>
    cases rr with
    | cons r' rr =>
      cases rr
      cases r
      cases r'
      obtain ⟨its, rv, p1, _⟩ := I1.list hqx
      obtain ⟨its2, rv2, p2, _⟩ := I1.tuple hqy
      have la : a < s1.heap.objs.size := p1.lt
      have lb : b < s1.heap.objs.size := by obtain ⟨_, y, _⟩ := id p2; exact Heap.lt_size y
      refine zip_begins2 (begins_list a its.toArray) (begins_tuple b its2.toArray) p1.isList p2 fun h' hz hTI hTO h1 h2 hsz hk => wpAny_pyIter_zip hz ?_
      have I2 : Inv X pins σ H1 { s1 with heap := h' } := I1.kept (t' := s1.toks) hk
      refine ⟨s1.heap.objs.size + 4, [s1.heap.objs.size + 4, s1.heap.objs.size + 2, s1.heap.objs.size + 3, s1.heap.objs.size, s1.heap.objs.size + 1], _, _, H1, rfl, I2, turn_zipL (PySem.W.ktu_apart s1.heap.objs.size a b la lb), ⟨hz, hTI, ⟨_, _, hTO⟩, ⟨_, h1, rfl, rfl⟩, ⟨_, h2, rfl, rfl⟩⟩, fun c hcm => ?_, q⟩
      have e' : c = s1.heap.objs.size + 4 ∨ c = s1.heap.objs.size + 2 ∨ c = s1.heap.objs.size + 3 ∨ c = s1.heap.objs.size ∨ c = s1.heap.objs.size + 1 := by simpa using hcm
      have hle : s1.heap.objs.size ≤ c := by
        rcases e' with z | z | z | z | z
        · rw [z]; exact Nat.le_add_right _ _
        · rw [z]; exact Nat.le_add_right _ _
        · rw [z]; exact Nat.le_add_right _ _
        · rw [z]; exact Nat.le_refl _
        · rw [z]; exact Nat.le_add_right _ _
      exact I1.fpOk hle (I1.hok.fresh hle)
theorem walk_zipL {K : PySem.W.Frag} {a b : Addr} {xs ys : List V} {n : Nat} (hn : n = min xs.length ys.length) : Walk (ItzL K a b) n (fun H => SqL K H a xs ∧ SqT K H b ys) (YPair (fun i => xs[i]?) (fun i => ys[i]?)) := by
  refine ⟨fun i _ hi q => ?_, fun _ q => ⟨xs, ys, q.1, q.2, by omega, by omega, by omega⟩, fun i H v H' _ q y => ?_⟩
  · have h1 : i < xs.length := by omega
    have h2 : i < ys.length := by omega
    exact ⟨xs, ys, xs[i], ys[i], q.1, q.2, by simp [h1], by simp [h2]⟩
  · obtain ⟨T, x, z, h1, h2, h3, h4, h5⟩ := y
    exact ⟨T, x, z, h1, h2, h3, h4 xs q.1, h5 ys q.2⟩
end K98

/-! ## DL3 -/
/-! Tests, calls of built-ins. -/
namespace K98
open PySem PySem.Spec PyProof.Rows L2
section
variable {K : PySem.W.Frag} {X : Cx} {a b c : Expr} {es : List Expr} {fa fb fc : List Vl → Option Vl} {fs : List Vl → Option (List Vl)} {ga gb : List Vl → Option Bool} {pos : Pos} {x : PySem.Str} {p : Pos}

/-! ### tests -/
def deepOf : Vl → Option PyData
  | .d x => some (pd x)
  | .o xs => some (.list (pds xs))
  | .u xs => some (.list (pds xs))
  | .l xs => some (.list (pds xs))
  | _ => none
theorem RepX.deep {N : Addr → Prop} {H0 H : Hp} {v : V} {x : Vl} {d : PyData} (h : RepX K N H0 H v x) (e : deepOf x = some d) : Dp K H v d := by
  cases x with
  | un => cases e
  | d x => cases e; exact Rep.dp x v h
  | o xs =>
    cases e
    obtain ⟨a, vs, rfl, _, q, r⟩ := h
    exact .lst (.of q) (RepL.dp xs vs r)
  | u xs =>
    cases e
    obtain ⟨a, vs, rfl, _, q, r⟩ := h
    exact .lst (.of q) (RepL.dp xs vs r)
  | l xs =>
    cases e
    obtain ⟨a, vs, rfl, q, r⟩ := h
    exact .lst (.of q) (RepL.dp xs vs r)
  | m _ => cases e
  | k _ => cases e
  | b _ => cases e
  | a _ => cases e
  | p _ _ => cases e
  | i _ _ => cases e
def gEq : Vl → Vl → Option Bool := fun a b => (deepOf a).bind fun x => (deepOf b).bind fun y => if SeqAt.shaped x = true ∧ SeqAt.shaped y = true then some (PyData.eqv x y) else none
def gNe : Vl → Vl → Option Bool := fun a b => (deepOf a).bind fun x => (deepOf b).bind fun y => if SeqAt.shaped x = true ∧ SeqAt.shaped y = true then some (!PyData.eqv x y) else none
def cEq (fa fb : List Vl → Option Vl) : List Vl → Option Bool := t2 gEq fa fb
def cNe (fa fb : List Vl → Option Vl) : List Vl → Option Bool := t2 gNe fa fb
theorem ct_eq (hK : X.K = K) (hu : X.A.units + 100 < cLine) (ha : PE X a (tD K fa)) (hb : PE X b (tD K fb)) : PT X (.Compare a [.Eq] [b] pos) (tT K (cEq fa fb)) := by
  subst hK
  refine pt_wk (pt_cmpR (op_eqD (by omega)) ha hb (nomark _)) (denT fun H0 H x y a b k Q s0 hx hy hg q => ?_)
  obtain ⟨d, h1, hg⟩ := Option.bind_eq_some_iff.mp hg
  obtain ⟨e, h2, hg⟩ := Option.bind_eq_some_iff.mp hg
  split at hg
  · rename_i hc
    cases hg
    exact ⟨d, e, hx.deep h1, hy.deep h2, hc.1, hc.2, q H (Same.refl H)⟩
  · cases hg
theorem ct_ne (hK : X.K = K) (hu : X.A.units + 100 < cLine) (ha : PE X a (tD K fa)) (hb : PE X b (tD K fb)) : PT X (.Compare a [.NotEq] [b] pos) (tT K (cNe fa fb)) := by
  subst hK
  refine pt_wk (pt_cmpR (op_neD (by omega)) ha hb (nomark _)) (denT fun H0 H x y a b k Q s0 hx hy hg q => ?_)
  obtain ⟨d, h1, hg⟩ := Option.bind_eq_some_iff.mp hg
  obtain ⟨e, h2, hg⟩ := Option.bind_eq_some_iff.mp hg
  split at hg
  · rename_i hc
    cases hg
    exact ⟨d, e, hx.deep h1, hy.deep h2, hc.1, hc.2, q H (Same.refl H)⟩
  · cases hg
def gC (f : Int → Int → Bool) : Vl → Vl → Option Bool := fun a b => (intOf a).bind fun i => (intOf b).map fun j => f i j
def cLt (fa fb : List Vl → Option Vl) : List Vl → Option Bool := t2 (gC fun i j => decide (i < j)) fa fb
def cLe (fa fb : List Vl → Option Vl) : List Vl → Option Bool := t2 (gC fun i j => decide (i ≤ j)) fa fb
def cGt (fa fb : List Vl → Option Vl) : List Vl → Option Bool := t2 (gC fun i j => decide (j < i)) fa fb
def cGe (fa fb : List Vl → Option Vl) : List Vl → Option Bool := t2 (gC fun i j => decide (j ≤ i)) fa fb
theorem ru_C {f : Int → Int → Bool} : RuT K (rI0 fun i j => .bl (f i j)) (gC f) := by
  intro H0 H x y a b k Q s0 hx hy hg q
  obtain ⟨i, h1, hg⟩ := Option.bind_eq_some_iff.mp hg
  obtain ⟨j, h2, hg⟩ := Option.map_eq_some_iff.mp hg
  subst hg
  exact ⟨i, j, hx.int h1, hy.int h2, q H (Same.refl H)⟩
theorem ct_lt (ha : PE X a (tD K fa)) (hb : PE X b (tD K fb)) : PT X (.Compare a [.Lt] [b] pos) (tT K (cLt fa fb)) := pt_wk (pt_cmpR op_lt ha hb (nomark _)) (denT ru_C)
theorem ct_le (ha : PE X a (tD K fa)) (hb : PE X b (tD K fb)) : PT X (.Compare a [.LtE] [b] pos) (tT K (cLe fa fb)) := pt_wk (pt_cmpR op_le ha hb (nomark _)) (denT ru_C)
theorem ct_gt (ha : PE X a (tD K fa)) (hb : PE X b (tD K fb)) : PT X (.Compare a [.Gt] [b] pos) (tT K (cGt fa fb)) := pt_wk (pt_cmpR op_gt ha hb (nomark _)) (denT ru_C)
theorem ct_ge (ha : PE X a (tD K fa)) (hb : PE X b (tD K fb)) : PT X (.Compare a [.GtE] [b] pos) (tT K (cGe fa fb)) := pt_wk (pt_cmpR op_ge ha hb (nomark _)) (denT ru_C)
def isNonD : D → Bool
  | .non => true
  | _ => false
theorem Rep.non_iff {H : Hp} {v : V} : ∀ {d : D}, Rep K H v d → decide (v = .non) = isNonD d
  | .non, h => by cases h; rfl
  | .int _, h => by cases h; rfl
  | .str _, h => by cases h; rfl
  | .tup _, h => by cases h; rfl
  | .tp _, h => by cases h; rfl
  | .tk _, h => by cases h; rfl
def gIsN (k : Bool) : Vl → Vl → Option Bool := fun a b => (datOf a).bind fun x => match b with
  | .d .non => some (isNonD x == k)
  | _ => none
def cIsN (fa fb : List Vl → Option Vl) : List Vl → Option Bool := t2 (gIsN true) fa fb
def cNotN (fa fb : List Vl → Option Vl) : List Vl → Option Bool := t2 (gIsN false) fa fb
theorem ct_isN (ha : PE X a (tD K fa)) (hb : PE X b (tD K fb)) : PT X (.Compare a [.Is] [b] pos) (tT K (cIsN fa fb)) := by
  refine pt_wk (pt_cmpR op_isN ha hb (nomark _)) (denT fun H0 H x y a b k Q s0 hx hy hg q => ?_)
  obtain ⟨d, h1, hg⟩ := Option.bind_eq_some_iff.mp hg
  split at hg
  · cases hg
    cases (show Rep K H y .non from hy)
    refine ⟨rfl, ?_⟩
    rw [(hx.dat h1).non_iff]
    have := q H (Same.refl H)
    cases e : isNonD d <;> rw [e] at this <;> exact this
  · cases hg
theorem ct_notN (ha : PE X a (tD K fa)) (hb : PE X b (tD K fb)) : PT X (.Compare a [.IsNot] [b] pos) (tT K (cNotN fa fb)) := by
  refine pt_wk (pt_cmpR op_notN ha hb (nomark _)) (denT fun H0 H x y a b k Q s0 hx hy hg q => ?_)
  obtain ⟨d, h1, hg⟩ := Option.bind_eq_some_iff.mp hg
  split at hg
  · cases hg
    cases (show Rep K H y .non from hy)
    refine ⟨rfl, ?_⟩
    rw [(hx.dat h1).non_iff]
    have := q H (Same.refl H)
    cases e : isNonD d <;> rw [e] at this <;> exact this
  · cases hg
def gIn : Vl → Vl → Option Bool := fun a b => (datOf a).bind fun x => (anyTup b).bind fun ys => if SeqAt.shaped (pd x) = true ∧ SeqAt.shaped (.tuple (pds ys)) = true then some ((pds ys).any fun z => PyData.eqv z (pd x)) else none
def cIn (fa fb : List Vl → Option Vl) : List Vl → Option Bool := t2 gIn fa fb
theorem ct_in (hK : X.K = K) (hu : X.A.units + 100 < cLine) (ha : PE X a (tD K fa)) (hb : PE X b (tD K fb)) (hm : behindInMarks .In b = false := by rfl) : PT X (.Compare a [.In] [b] pos) (tT K (cIn fa fb)) := by
  subst hK
  refine pt_wk (pt_cmpR (op_inT (by omega)) ha hb hm) (denT fun H0 H x y a b k Q s0 hx hy hg q => ?_)
  obtain ⟨d, h1, hg⟩ := Option.bind_eq_some_iff.mp hg
  obtain ⟨ys, h2, hg⟩ := Option.bind_eq_some_iff.mp hg
  split at hg
  · rename_i hc
    cases hg
    obtain ⟨p, vs, rfl, hT, r⟩ := hy.any' h2
    exact ⟨pd d, pds ys, Rep.dp d _ (hx.dat h1), .tup hT (RepL.dp ys vs r), hc.1, hc.2, q H (Same.refl H)⟩
  · cases hg
def cCh (fa fb fc : List Vl → Option Vl) : List Vl → Option Bool := fun env => ((fa env).bind intOf).bind fun i => ((fb env).bind intOf).bind fun j => if i ≤ j then ((fc env).bind intOf).map fun k => decide (j < k) else some false
theorem ct_chain (ha : PE X a (tD K fa)) (hb : PE X b (tD K fb)) (hc : PE X c (tD K fc)) (hm : lastMarks [.LtE, .Lt] [b, c] = false := by with_unfolding_all rfl) :
    PT X (.Compare a [.LtE, .Lt] [b, c] pos) (tT K (cCh fa fb fc)) := by
  refine pt_wk (pt_chain op_le op_lt ha hb hc hm) fun σ H Q h => ?_
  obtain ⟨H0, env, k, s0, he, hf, q⟩ := h
  obtain ⟨i, h1, hf⟩ := Option.bind_eq_some_iff.mp hf
  obtain ⟨j, h2, hf⟩ := Option.bind_eq_some_iff.mp hf
  obtain ⟨x, hx, h1⟩ := Option.bind_eq_some_iff.mp h1
  obtain ⟨y, hy, h2⟩ := Option.bind_eq_some_iff.mp h2
  refine ⟨H0, env, x, s0, he, hx, fun v H1 s1 hv => ⟨H0, env, y, s0.trans s1, he.same s1, hy, fun u H2 s2 hu => ?_⟩⟩
  refine ⟨i, j, (hv.same s2).int h1, hu.int h2, _, rfl, ?_⟩
  by_cases hij : i ≤ j
  · rw [if_pos hij] at hf
    obtain ⟨n, h3, hf⟩ := Option.map_eq_some_iff.mp hf
    obtain ⟨z, hz, h3⟩ := Option.bind_eq_some_iff.mp h3
    rw [if_pos (decide_eq_true hij)]
    refine ⟨H0, env, z, (s0.trans s1).trans s2, he.same (s1.trans s2), hz, fun t H3 s3 ht => ?_⟩
    exact ⟨j, n, (hu.same s3).int h2, ht.int h3, _, rfl, by rw [hf]; exact q H3 ((s1.trans s2).trans s3)⟩
  · rw [if_neg hij] at hf
    rw [decide_eq_false hij, if_neg Bool.false_ne_true]
    cases hf
    exact ⟨false, rfl, q H2 (s1.trans s2)⟩
def cNot (f : List Vl → Option Bool) : List Vl → Option Bool := fun env => (f env).map not
def cAnd (f g : List Vl → Option Bool) : List Vl → Option Bool := fun env => (f env).bind fun k => if k = true then g env else some false
def cOr (f g : List Vl → Option Bool) : List Vl → Option Bool := fun env => (f env).bind fun k => if k = true then some true else g env
theorem ct_not (ha : PT X a (tT K ga)) : PT X (.UnaryOp .Not a pos) (tT K (cNot ga)) := pt_wk (pt_not ha) fun σ H Q h => by
  obtain ⟨H0, env, k, s0, he, hf, q⟩ := h
  obtain ⟨j, h1, hf⟩ := Option.map_eq_some_iff.mp hf
  subst hf
  exact ⟨H0, env, j, s0, he, h1, fun H' s => q H' s⟩
theorem cw_and1 (ha : PT X a (tT K ga)) : PW X (.BoolOp .And [a] pos) (tT K ga) := pw_and1 ha
theorem cw_or1 (ha : PT X a (tT K ga)) : PW X (.BoolOp .Or [a] pos) (tT K ga) := pw_or1 ha
theorem cw_and {rest : List Expr} (ha : PT X a (tT K ga)) (hb : PW X (.BoolOp .And (b :: rest) pos) (tT K gb)) : PW X (.BoolOp .And (a :: b :: rest) pos) (tT K (cAnd ga gb)) := pw_wk (pw_and ha hb) fun σ H Q h => by
  obtain ⟨H0, env, k, s0, he, hf, q⟩ := h
  obtain ⟨j, h1, hf⟩ := Option.bind_eq_some_iff.mp hf
  refine ⟨H0, env, j, s0, he, h1, fun H1 s1 => ?_⟩
  by_cases hj : j = true
  · rw [if_pos hj] at hf ⊢
    exact ⟨H0, env, k, s0.trans s1, he.same s1, hf, fun H2 s2 => q H2 (s1.trans s2)⟩
  · rw [if_neg hj] at hf ⊢
    cases hf
    exact q H1 s1
theorem cw_or {rest : List Expr} (ha : PT X a (tT K ga)) (hb : PW X (.BoolOp .Or (b :: rest) pos) (tT K gb)) : PW X (.BoolOp .Or (a :: b :: rest) pos) (tT K (cOr ga gb)) := pw_wk (pw_or ha hb) fun σ H Q h => by
  obtain ⟨H0, env, k, s0, he, hf, q⟩ := h
  obtain ⟨j, h1, hf⟩ := Option.bind_eq_some_iff.mp hf
  refine ⟨H0, env, j, s0, he, h1, fun H1 s1 => ?_⟩
  by_cases hj : j = true
  · rw [if_pos hj] at hf ⊢
    cases hf
    exact q H1 s1
  · rw [if_neg hj] at hf ⊢
    exact ⟨H0, env, k, s0.trans s1, he.same s1, hf, fun H2 s2 => q H2 (s1.trans s2)⟩
def eIf (t : List Vl → Option Bool) (f g : List Vl → Option Vl) : List Vl → Option Vl := fun env => (t env).bind fun k => if k = true then f env else g env
theorem RepX.sameN {H0 H H' H2 : Hp} {v : V} {x : Vl} (h : RepX K (New H') H0 H2 v x) (s : Same H H') : RepX K (New H) H0 H2 v x := h.weak fun p hp => s.free hp
theorem d_ifE (hc : PT X c (tT K ga)) (ha : PE X a (tD K fa)) (hb : PE X b (tD K fb)) : PE X (.IfExp c a b pos) (tD K (eIf ga fa fb)) := pe_wk (pe_ifExp hc ha hb) fun σ H Q h => by
  obtain ⟨H0, env, val, s0, he, hf, q⟩ := h
  obtain ⟨j, h1, hf⟩ := Option.bind_eq_some_iff.mp hf
  refine ⟨H0, env, j, s0, he, h1, fun H1 s1 => ?_⟩
  by_cases hj : j = true
  · rw [if_pos hj] at hf ⊢
    exact ⟨H0, env, val, s0.trans s1, he.same s1, hf, fun v H2 s2 hv => q v H2 (s1.trans s2) (hv.sameN s1)⟩
  · rw [if_neg hj] at hf ⊢
    exact ⟨H0, env, val, s0.trans s1, he.same s1, hf, fun v H2 s2 hv => q v H2 (s1.trans s2) (hv.sameN s1)⟩

/-! ### calls of built-ins -/
theorem RuC.one {r : List V → Hp → VK → Prop} {g : Vl → Option Vl} (h : Ru1 K (fun x => r [x]) g) : RuC K r (fun as => match as with | [a] => g a | _ => none) := by
  intro H0 H xs as val Q s0 hx hg q
  cases hx with
  | nil => cases hg
  | cons h1 t =>
    cases t with
    | nil => exact h H0 H _ _ val Q s0 h1 hg q
    | cons _ _ => cases hg
def eB1 (g : Vl → Option Vl) (f : List Vl → Option (List Vl)) : List Vl → Option Vl := eC (fun as => match as with | [a] => g a | _ => none) f
theorem d_callB {id : String} {r : List V → Hp → VK → Prop} {g : Vl → Option Vl} (hc : CallR X (.builtin id) r) (hr : Ru1 K (fun x => r [x]) g) (hg : Gl X x) (hm : X.mg x = none) (hv : bootBuiltins x = some (.builtin id)) (ha : PA X (a :: es) (tA K fs)) (hn : x ≠ "__name__" := by decide) (hdb : (x == ("__debug__" : PySem.Str)) = false := by decide)
    (he : starEach (a :: es) X.env = (false, eval a X.env) :: starEach es X.env := by rfl) (hpl : (backTo pos (starEach es X.env)).any (·.1) = false := by rfl) : PE X (.Call (.Name x p) (a :: es) [] pos) (tD K (eB1 g fs)) :=
  pe_wk (pe_callB hc hg hm hv ha hn hdb he hpl) (denC (RuC.one hr))
theorem d_callT {T : String} {r : List V → Hp → VK → Prop} {g : Vl → Option Vl} (hc : CallR X (.type T) r) (hr : Ru1 K (fun x => r [x]) g) (hg : Gl X x) (hm : X.mg x = none) (hv : bootBuiltins x = some (.type T)) (ha : PA X (a :: es) (tA K fs)) (hn : x ≠ "__name__" := by decide) (hdb : (x == ("__debug__" : PySem.Str)) = false := by decide)
    (he : starEach (a :: es) X.env = (false, eval a X.env) :: starEach es X.env := by rfl) (hpl : (backTo pos (starEach es X.env)).any (·.1) = false := by rfl) : PE X (.Call (.Name x p) (a :: es) [] pos) (tD K (eB1 g fs)) :=
  pe_wk (pe_callTy hc hg hm hv ha hn hdb he hpl) (denC (RuC.one hr))

def gLen : Vl → Option Vl := fun a => (seqOf a).map fun xs => .d (.int xs.length)
theorem ru_len : Ru1 K (fun x H Q => ∃ x' n, [x] = [x'] ∧ LenV K x' H n ∧ Q (.int n) H) gLen := by
  intro H0 H x a val Q s0 hx hg q
  obtain ⟨xs, h1, hg⟩ := Option.map_eq_some_iff.mp hg
  subst hg
  obtain ⟨p, vs, rfl, hq, r⟩ := hx.seq h1
  refine ⟨_, xs.length, rfl, ?_, q _ H (Same.refl H) (Rep.int _)⟩
  rcases hq with hq | hq
  · exact .inl ⟨vs, hq, r.length.symm⟩
  · exact .inr ⟨vs, hq, r.length.symm⟩
theorem d_len (hK : X.K = K) (hg : Gl X "len") (hm : X.mg "len" = none) (ha : PA X [a] (tA K fs)) (he : starEach [a] X.env = (false, eval a X.env) :: starEach [] X.env := by rfl) :
    PE X (.Call (.Name "len" p) [a] [] pos) (tD K (eB1 gLen fs)) := by
  subst hK
  exact d_callB call_len ru_len hg hm boot_len ha (by decide) (by decide) he
/-- tuple of a list -/
def gTupL : Vl → Option Vl := fun a => (lstOf a).map fun xs => .d (.tup xs)
theorem d_tupL (hK : X.K = K) (hg : Gl X "tuple") (hm : X.mg "tuple" = none) (ha : PA X [a] (tA K fs)) (he : starEach [a] X.env = (false, eval a X.env) :: starEach [] X.env := by rfl) :
    PE X (.Call (.Name "tuple" p) [a] [] pos) (tD K (eB1 gTupL fs)) := by
  subst hK
  refine d_callT call_tuple_of (fun H0 H x a val Q s0 hx hg q => ?_) hg hm PyProof.Rows.boot_tuple ha (by decide) (by decide) he
  obtain ⟨xs, h1, hg⟩ := Option.map_eq_some_iff.mp hg
  subst hg
  obtain ⟨p, vs, rfl, hq, r⟩ := hx.lst h1
  exact ⟨p, vs, rfl, .inl ⟨.of hq, fun l hl => q _ _ (same_new hl) (Rep.tup upd_same (r.mono (same_tup (same_new hl))))⟩⟩
/-- .. the object told -/
theorem call_tupleP : CallR X (.type "tuple") (fun xs H Q => ∃ p ys, xs = [.ref p] ∧ SqL X.K H p ys ∧ ∀ (l : Addr) (o : Obj), H l = none → o.dict = none → Q (.ref l) (upd H l (.frz o (.tup ys)))) := by
  intro pins s σ H xs us Q I r h
  obtain ⟨p, ys, rfl, hq, q⟩ := h
  obtain ⟨u, rfl, rx⟩ := vals1 r
  cases rx
  obtain ⟨its, r', pl, hz⟩ := I.list hq
  have hlen := r'.length
  refine call_tuple_list pl.isList (fun h' kp => ?_) (by simp only [List.size_toArray] <;> omega)
  have I1 : Inv X pins σ H { s with heap := h' } := I.kept (t' := s.toks) kp
  have I2 : Inv X pins σ (upd H h'.objs.size (.frz { cls := .type "tuple", data := .seq its.toArray } (.tup ys))) { s with heap := h'.push { cls := .type "tuple", data := .seq its.toArray } } :=
    I1.laid (t' := s.toks) (fun b o e => Heap.get?_push_of_some _ e) (Nat.le_refl _) (show ObjOk X.prog X.w _ _ _ (.frz _ (.tup ys)) from ⟨Heap.get?_push_size _ rfl, hz, its, r', IsTup.new _ _⟩)
  exact ⟨.ref h'.objs.size, _, I2, rfl, q _ _ (I1.hok.fresh (Nat.le_refl _)) rfl⟩
def gTupP : Vl → Option Vl := fun a => (lstOf a).map fun xs => .d (.tp xs)
theorem d_tupP (hK : X.K = K) (hg : Gl X "tuple") (hm : X.mg "tuple" = none) (ha : PA X [a] (tA K fs)) (he : starEach [a] X.env = (false, eval a X.env) :: starEach [] X.env := by rfl) :
    PE X (.Call (.Name "tuple" p) [a] [] pos) (tD K (eB1 gTupP fs)) := by
  subst hK
  refine d_callT call_tupleP (fun H0 H x a val Q s0 hx hg q => ?_) hg hm PyProof.Rows.boot_tuple ha (by decide) (by decide) he
  obtain ⟨xs, h1, hg⟩ := Option.map_eq_some_iff.mp hg
  subst hg
  obtain ⟨p, vs, rfl, hq, r⟩ := hx.lst h1
  exact ⟨p, vs, rfl, .of hq, fun l o hl hd => q _ _ (same_new hl) (Rep.tp upd_same hd (r.mono (same_tup (same_new hl))))⟩
/-- list of a tuple -/
def gLstT : Vl → Option Vl := fun a => (anyTup a).map fun xs => .o xs
theorem d_lstT (hK : X.K = K) (hg : Gl X "list") (hm : X.mg "list" = none) (ha : PA X [a] (tA K fs)) (he : starEach [a] X.env = (false, eval a X.env) :: starEach [] X.env := by rfl) :
    PE X (.Call (.Name "list" p) [a] [] pos) (tD K (eB1 gLstT fs)) := by
  subst hK
  refine d_callT call_list_of (fun H0 H x a val Q s0 hx hg q => ?_) hg hm PyProof.Rows.boot_list ha (by decide) (by decide) he
  obtain ⟨xs, h1, hg⟩ := Option.map_eq_some_iff.mp hg
  subst hg
  obtain ⟨p, vs, rfl, hq, r⟩ := hx.any' h1
  exact ⟨p, vs, rfl, .inr hq, fun l hl => q _ _ (same_new hl) ⟨l, vs, rfl, hl, upd_same, r.mono (same_tup (same_new hl))⟩⟩
/-- ints in a row -/
def intsOf : List D → Option (List Int)
  | [] => some []
  | .int i :: r => (intsOf r).map fun l => i :: l
  | _ => none
theorem RepL.intsOf {H : Hp} : ∀ {ds : List D} {vs : List V} {ns : List Int}, RepL K H vs ds → K98.intsOf ds = some ns → vs = ns.map V.int
  | [], _, _, h, e => by cases h; cases e; rfl
  | .int i :: r, _, _, h, e => by
    cases h with
    | cons h1 h2 =>
      cases h1
      obtain ⟨l, hl, e⟩ := Option.map_eq_some_iff.mp (show (K98.intsOf r).map (fun l => i :: l) = some _ from e)
      subst e
      rw [RepL.intsOf h2 hl] <;> rfl
  | .non :: _, _, _, _, e => by cases e
  | .str _ :: _, _, _, _, e => by cases e
  | .tup _ :: _, _, _, _, e => by cases e
  | .tp _ :: _, _, _, _, e => by cases e
  | .tk _ :: _, _, _, _, e => by cases e
def gSum : Vl → Option Vl := fun a => (seqOf a).bind fun xs => (intsOf xs).map fun ns => .d (.int ns.sum)
theorem d_sum (hK : X.K = K) (hc : X.calm = true) (hg : Gl X "sum") (hm : X.mg "sum" = none) (ha : PA X [a] (tA K fs)) (he : starEach [a] X.env = (false, eval a X.env) :: starEach [] X.env := by rfl) :
    PE X (.Call (.Name "sum" p) [a] [] pos) (tD K (eB1 gSum fs)) := by
  subst hK
  refine d_callB (cr_sumT hc) (fun H0 H x a val Q s0 hx hg q => ?_) hg hm PyProof.Rows.boot_sum ha (by decide) (by decide) he
  obtain ⟨xs, h1, hg⟩ := Option.bind_eq_some_iff.mp hg
  obtain ⟨ns, h2, hg⟩ := Option.map_eq_some_iff.mp hg
  subst hg
  obtain ⟨p, vs, rfl, hq, r⟩ := hx.seq h1
  have e := r.intsOf h2
  subst e
  exact ⟨p, ns, rfl, hq, q _ H (Same.refl H) (Rep.int _)⟩
/-- tuple * k -/
def gRepT : Vl → Vl → Option Vl := fun a b => (tupOf a).bind fun xs => (intOf b).bind fun k => if 1 ≤ k ∧ k ≤ 1000 ∧ 0 < xs.length ∧ xs.length ≤ 1000 then some (.d (.tup (List.replicate k.toNat xs).flatten)) else none
def eRepT : (List Vl → Option Vl) → (List Vl → Option Vl) → List Vl → Option Vl := e2 gRepT
theorem op_repTA : OpR X (binaryOp .Mult) (fun x y H Q => rRepT1 X.K x y H Q ∨ rRepT X.K x y H Q) := by
  intro pins s σ H x y v u Q I rx ry h
  rcases h with h | h
  · exact op_repT1 pins s σ H x y v u Q I rx ry h
  · exact op_repT pins s σ H x y v u Q I rx ry h
theorem d_repT (hK : X.K = K) (ha : PE X a (tD K fa)) (hb : PE X b (tD K fb)) : PE X (.BinOp a .Mult b pos) (tD K (eRepT fa fb)) := by
  subst hK
  refine pe_wk (pe_op op_repTA ha hb) (den2 fun H0 H x y a b val Q s0 hx hy hg q => ?_)
  obtain ⟨xs, h1, hg⟩ := Option.bind_eq_some_iff.mp hg
  obtain ⟨k, h2, hg⟩ := Option.bind_eq_some_iff.mp hg
  split at hg
  · rename_i hl
    cases hg
    obtain ⟨p, vs, rfl, q1, r1⟩ := hx.tup h1
    have ey := hy.int h2
    subst ey
    have hlen := r1.length
    by_cases hk : k = 1
    · subst hk
      refine .inl ⟨p, vs, rfl, rfl, .of q1, q _ H (Same.refl H) ?_⟩
      show Rep X.K H (.ref p) (.tup (List.replicate 1 xs).flatten)
      have e : (List.replicate 1 xs).flatten = xs := by simp
      rw [e]
      exact Rep.tup q1 r1
    · refine .inr ⟨p, k, vs, rfl, rfl, .of q1, ?_, by omega, by omega, by omega, fun l hl => ?_⟩
      · intro z
        subst z
        simp at hlen
        omega
      · exact q _ _ (same_new hl) (Rep.tup upd_same ((rep_flat r1 _).mono (same_tup (same_new hl))))
  · cases hg

/-! ### sorted(set(ints)), x.count(j) -/
def insR (k : Int) : List Int → List Int
  | [] => [k]
  | x :: r => if k < x then k :: x :: r else if k = x then x :: r else x :: insR k r
/-- the members of a list of ints, rising -/
def riseOf (ns : List Int) : List Int := ns.foldr insR []
theorem mem_insR {k j : Int} : ∀ {l : List Int}, j ∈ insR k l ↔ j = k ∨ j ∈ l
  | [] => by simp [insR]
  | x :: r => by
    unfold insR
    split
    · simp
    · split
      · rename_i e
        subst e
        simp
      · rw [List.mem_cons, List.mem_cons, mem_insR (l := r)]
        constructor
        · rintro (h | h | h)
          · exact .inr (.inl h)
          · exact .inl h
          · exact .inr (.inr h)
        · rintro (h | h | h)
          · exact .inr (.inl h)
          · exact .inl h
          · exact .inr (.inr h)
theorem pw_insR {k : Int} : ∀ {l : List Int}, l.Pairwise (· < ·) → (insR k l).Pairwise (· < ·)
  | [], _ => by simp [insR]
  | x :: r, h => by
    obtain ⟨h1, h2⟩ := List.pairwise_cons.mp h
    unfold insR
    split
    · rename_i hk
      refine List.pairwise_cons.mpr ⟨fun y hy => ?_, h⟩
      rcases List.mem_cons.mp hy with e | hy
      · omega
      · have := h1 y hy; omega
    · split
      · exact h
      · refine List.pairwise_cons.mpr ⟨fun y hy => ?_, pw_insR h2⟩
        rcases mem_insR.mp hy with e | hy
        · omega
        · exact h1 y hy
theorem mem_riseOf {ns : List Int} {j : Int} : j ∈ riseOf ns ↔ j ∈ ns := by
  induction ns with
  | nil => simp [riseOf]
  | cons k r ih =>
    show j ∈ insR k (riseOf r) ↔ _
    rw [mem_insR, ih, List.mem_cons]
theorem pw_riseOf (ns : List Int) : (riseOf ns).Pairwise (· < ·) := by
  induction ns with
  | nil => simp [riseOf]
  | cons k r ih => exact pw_insR ih
theorem rise_unique : ∀ {l m : List Int}, l.Pairwise (· < ·) → m.Pairwise (· < ·) → (∀ k, k ∈ l ↔ k ∈ m) → l = m
  | [], [], _, _, _ => rfl
  | [], y :: m, _, _, h => absurd ((h y).mpr List.mem_cons_self) (by simp)
  | x :: l, [], _, _, h => absurd ((h x).mp List.mem_cons_self) (by simp)
  | x :: l, y :: m, hl, hm, h => by
    obtain ⟨l1, l2⟩ := List.pairwise_cons.mp hl
    obtain ⟨m1, m2⟩ := List.pairwise_cons.mp hm
    have e : x = y := by
      have a1 := (h x).mp List.mem_cons_self
      have a2 := (h y).mpr List.mem_cons_self
      rcases List.mem_cons.mp a1 with e | a1
      · exact e
      · rcases List.mem_cons.mp a2 with e | a2
        · exact e.symm
        · have := m1 x a1; have := l1 y a2; omega
    subst e
    rw [rise_unique l2 m2 fun k => ?_]
    constructor
    · intro hk
      rcases List.mem_cons.mp ((h k).mp (List.mem_cons_of_mem _ hk)) with e | q
      · have := l1 k hk; omega
      · exact q
    · intro hk
      rcases List.mem_cons.mp ((h k).mpr (List.mem_cons_of_mem _ hk)) with e | q
      · have := m1 k hk; omega
      · exact q
def gSortSet : Vl → Option Vl := fun a => (lstOf a).bind fun xs => (intsOf xs).bind fun ns => if ns.length ≤ 1000 ∧ (riseOf ns).length < 64 then some (.o ((riseOf ns).map D.int)) else none
def eSortSet (f : List Vl → Option (List Vl)) : List Vl → Option Vl := eB1 gSortSet f
theorem d_sortSet {q pos' : Pos} (hK : X.K = K) (hc : X.calm = true) (hg : Gl X "sorted") (hm : X.mg "sorted" = none) (hg2 : Gl X "set") (hm2 : X.mg "set" = none) (ha : PA X [a] (tA K fs)) (he : starEach [a] X.env = (false, eval a X.env) :: starEach [] X.env := by rfl) :
    PE X (.Call (.Name "sorted" p) [.Call (.Name "set" q) [a] [] pos'] [] pos) (tD K (eSortSet fs)) := by
  subst hK
  have h1 := pe_callTy (pos := pos') (p := q) (cr_setL hc) hg2 hm2 PyProof.Rows.boot_set ha (by decide) (by decide) he
  refine pe_wk (pe_callB (cr_sortedSet hc) hg hm PyProof.Rows.boot_sorted (pa_cons h1 pa_nil) (by decide) (by decide)) fun σ H Q h => ?_
  obtain ⟨H0, env, val, s0, he, hf, q⟩ := h
  obtain ⟨as, ha, hf⟩ := Option.bind_eq_some_iff.mp hf
  refine ⟨H0, env, as, s0, he, ha, fun vs H1 s1 hv => ?_⟩
  cases hv with
  | nil => cases hf
  | @cons v vs x xs hx t =>
    cases t with
    | cons _ _ => cases hf
    | nil =>
      have hf : gSortSet x = some val := hf
      obtain ⟨ds, h1, hf⟩ := Option.bind_eq_some_iff.mp hf
      obtain ⟨ns, h2, hf⟩ := Option.bind_eq_some_iff.mp hf
      split at hf
      · rename_i hl
        cases hf
        obtain ⟨p, ws, rfl, hq, r⟩ := hx.lst h1
        have e := r.intsOf h2
        subst e
        refine ⟨p, ns, rfl, .of hq, hl.1, fun p1 c1 hp1 hc1 => ?_⟩
        have hc2 : c1 ≤ (riseOf ns).length := hc1 _ fun k hk => mem_riseOf.mpr hk
        refine ⟨p1, _, c1, rfl, upd_same, by omega, fun ms p2 hpw hmem _ hp2 => ?_⟩
        have e : ms = riseOf ns := rise_unique hpw (pw_riseOf ns) fun k => by rw [hmem k, mem_riseOf, decide_eq_true_eq]
        subst e
        have s2 : Same H1 (upd H1 p1 (SetO X.w p1 (fun j => decide (j ∈ ns)) c1)) := same_new hp1
        have s3 := s2.trans (same_new (o := .lst ((riseOf ns).map V.int)) hp2)
        refine q _ _ (s1.trans s3) ⟨p2, _, rfl, (s1.trans s2).free hp2, upd_same, ?_⟩
        exact RepL.ints _
      · cases hf
/-- x.count(j) -/
def gCount : Vl → Vl → Option Vl := fun a b => (lstOf a).bind fun xs => (intsOf xs).bind fun ns => (intOf b).map fun k => .d (.int (ns.count k : Nat))
def eCount : (List Vl → Option Vl) → (List Vl → Option Vl) → List Vl → Option Vl := e2 gCount
theorem d_count {apos : Pos} (hK : X.K = K) (ha : PE X a (tD K fa)) (hb : PE X b (tD K fb))
    (hbase : attributeBase a "count" X.env (eval a X.env) = eval a X.env := by rfl)
    (hfew : ((backTo pos (starEach [b] X.env)).all (fun x => !x.1) && (backToKw pos (keywordEach [] X.env)).all (fun x => x.1.isSome)
      && decide (([b] : List Expr).length + ([] : List Keyword).length + (if ([] : List Keyword).isEmpty then 0 else 1) < 30)) = true := by rfl)
    (hline : (apos.endLine == pos.line) = true := by rfl) (hs : starEach [b] X.env = (false, eval b X.env) :: starEach [] X.env := by rfl) (hpl : (backTo pos (starEach [] X.env)).any (·.1) = false := by rfl) :
    PE X (.Call (.Attribute a "count" apos) [b] [] pos) (tD K (eCount fa fb)) := by
  subst hK
  refine pe_wk (pe_bm F.plainAttrs_list F.slot_list_count F.type_list_count mt_lcount ha (pa_cons hb pa_nil hs) hbase hfew hline hs hpl) fun σ H Q h => ?_
  obtain ⟨H0, env, val, s0, he, hf, q⟩ := h
  obtain ⟨x, hx, hf⟩ := Option.bind_eq_some_iff.mp hf
  obtain ⟨y, hy, hf⟩ := Option.bind_eq_some_iff.mp hf
  obtain ⟨ds, h1, hf⟩ := Option.bind_eq_some_iff.mp hf
  obtain ⟨ns, h2, hf⟩ := Option.bind_eq_some_iff.mp hf
  obtain ⟨k, h3, hf⟩ := Option.map_eq_some_iff.mp hf
  subst hf
  refine ⟨H0, env, x, s0, he, hx, fun v H1 s1 hv => ?_⟩
  obtain ⟨p, vs, rfl, hq, r⟩ := hv.lst h1
  have e := r.intsOf h2
  subst e
  refine ⟨.inl ⟨rfl, _, .of hq⟩, H0, env, y, s0.trans s1, he.same s1, hy, fun u H2 s2 hu => ?_⟩
  exact ⟨p, ns, k, rfl, by rw [hu.int h3], .of (s2 _ _ hq), q _ H2 (s1.trans s2) (Rep.int _)⟩
end
end K98

/-! ## DL4 -/
/-! Pairs and dicts; sources of loops; comprehensions. -/
namespace K98
open PySem PySem.Spec PyProof.Rows L2
section
variable {K : PySem.W.Frag} {X : Cx} {a b c : Expr} {es : List Expr} {fa fb fc : List Vl → Option Vl} {fs : List Vl → Option (List Vl)} {ga gb : List Vl → Option Bool} {pos : Pos} {x : PySem.Str} {p : Pos}

def key1 : D → Option Key
  | .int i => some (.inl i)
  | .str s => some (.inr s)
  | _ => none
def keys : List D → Option (List Key)
  | [] => some []
  | d :: r => (key1 d).bind fun k => (keys r).map fun l => k :: l
theorem Rep.key {H : Hp} {v : V} : ∀ {d : D} {k : Key}, Rep K H v d → key1 d = some k → v = kV k
  | .int i, k, h, e => by cases h; cases e; rfl
  | .str s, k, h, e => by cases h; cases e; rfl
  | .non, _, _, e => by cases e
  | .tup _, _, _, e => by cases e
  | .tp _, _, _, e => by cases e
  | .tk _, _, _, e => by cases e
theorem RepL.keys {H : Hp} : ∀ {ds : List D} {vs : List V} {k : List Key}, RepL K H vs ds → K98.keys ds = some k → vs = k.map kV
  | [], _, _, h, e => by cases h; cases e; rfl
  | d :: r, _, _, h, e => by
    cases h with
    | cons h1 h2 =>
      obtain ⟨k1, e1, e⟩ := Option.bind_eq_some_iff.mp e
      obtain ⟨l, e2, e⟩ := Option.map_eq_some_iff.mp e
      subst e
      rw [Rep.key h1 e1, RepL.keys h2 e2] <;> rfl
def keyT : D → Option (List Key)
  | .tup ks => keys ks
  | _ => none
def pair1 : D → Option (List Key × D)
  | .tup [kd, c] => (keyT kd).map fun k => (k, c)
  | _ => none
def pairsD : List D → Option (List (List Key × D))
  | [] => some []
  | d :: r => (pair1 d).bind fun k => (pairsD r).map fun l => k :: l
theorem Rep.keyT {H : Hp} {v : V} {d : D} {k : List Key} (h : Rep K H v d) (e : K98.keyT d = some k) : ∃ b, v = .ref b ∧ H b = some (.tup (k.map kV)) := by
  unfold K98.keyT at e
  split at e
  · cases h with
    | tup ha hl =>
      have := hl.keys e
      subst this
      exact ⟨_, rfl, ha⟩
  · cases e
theorem RepL.pairs {H : Hp} : ∀ {ds : List D} {vs : List V} {kds : List (List Key × D)}, RepL K H vs ds → pairsD ds = some kds → ∃ kvs, PairsR K H vs kvs ∧ MapR K H kvs kds
  | [], _, _, h, e => by cases h; cases e; exact ⟨[], .nil, .nil⟩
  | d :: r, _, _, h, e => by
    cases h with
    | cons h1 h2 =>
      obtain ⟨k1, e1, e⟩ := Option.bind_eq_some_iff.mp e
      obtain ⟨l, e2, e⟩ := Option.map_eq_some_iff.mp e
      subst e
      obtain ⟨kvs, q1, q2⟩ := RepL.pairs h2 e2
      unfold pair1 at e1
      split at e1
      · rename_i kd c
        obtain ⟨k, e3, e1⟩ := Option.map_eq_some_iff.mp e1
        subst e1
        cases h1 with
        | tup ha hl =>
          cases hl with
          | cons hk hr =>
            cases hr with
            | cons hc hn =>
              cases hn
              obtain ⟨b, rfl, hb⟩ := hk.keyT e3
              exact ⟨_ :: kvs, .cons (.of ha) hb q1, .cons hc q2⟩
      · cases e1
theorem MapR.keys {H : Hp} {kvs : List (List Key × V)} {kds : List (List Key × D)} (h : MapR K H kvs kds) : kvs.map (·.1) = kds.map (·.1) := by
  induction h with
  | nil => rfl
  | cons _ _ ih => rw [List.map_cons, List.map_cons, ih]
def valD (kds : List (List Key × D)) (k : List Key) : Option D := (kds.find? fun kv => decide (kv.1 = k)).map (·.2)
theorem MapR.val {H : Hp} {kvs : List (List Key × V)} {kds : List (List Key × D)} (h : MapR K H kvs kds) {k : List Key} {d : D} (e : valD kds k = some d) : ∃ v, valV kvs k = some v ∧ Rep K H v d := by
  induction h with
  | nil => cases e
  | @cons k1 v1 d1 r s h1 _ ih =>
    by_cases hk : k1 = k
    · have e' : valD ((k1, d1) :: s) k = some d1 := by simp [valD, List.find?_cons, hk]
      rw [e'] at e
      cases e
      exact ⟨v1, valV_pos hk, h1⟩
    · have e' : valD ((k1, d1) :: s) k = valD s k := by simp [valD, List.find?_cons, hk]
      rw [e'] at e
      obtain ⟨v, q1, q2⟩ := ih e
      exact ⟨v, by rw [valV_neg hk]; exact q1, q2⟩
def nodupB : List (List Key) → Bool
  | [] => true
  | k :: r => (r.all fun j => !decide (k = j)) && nodupB r
theorem nodupB_ok : ∀ {l : List (List Key)}, nodupB l = true → l.Nodup
  | [], _ => List.nodup_nil
  | k :: r, h => by
    simp only [nodupB, Bool.and_eq_true, List.all_eq_true, Bool.not_eq_true', decide_eq_false_iff_not] at h
    exact List.nodup_cons.mpr ⟨fun hm => h.1 k hm rfl, nodupB_ok h.2⟩
/-- dict of a tuple of pairs -/
def tpOf : Vl → Option (List D)
  | .d (.tp xs) => some xs
  | _ => none
def gDict : Vl → Option Vl := fun a => (tpOf a).bind fun xs => (pairsD xs).bind fun kds => if nodupB (kds.map (·.1)) = true ∧ xs.length ≤ 1000 then some (.m kds) else none
theorem d_dict (hK : X.K = K) (hc : X.calm = true) (hu : X.A.units + 100 < cLine) (hg : Gl X "dict") (hm : X.mg "dict" = none) (ha : PA X [a] (tA K fs)) (he : starEach [a] X.env = (false, eval a X.env) :: starEach [] X.env := by rfl) :
    PE X (.Call (.Name "dict" p) [a] [] pos) (tD K (eB1 gDict fs)) := by
  subst hK
  refine d_callT (cr_dictT hc (by omega)) (fun H0 H x a val Q s0 hx hg q => ?_) hg hm PyProof.Rows.boot_dict ha (by decide) (by decide) he
  obtain ⟨xs, h1, hg⟩ := Option.bind_eq_some_iff.mp hg
  obtain ⟨kds, h2, hg⟩ := Option.bind_eq_some_iff.mp hg
  split at hg
  · rename_i hl
    cases hg
    unfold tpOf at h1
    split at h1
    · cases h1
      cases (show Rep X.K H x (.tp xs) from hx) with
      | tp q1 q2 q3 =>
        obtain ⟨kvs, p1, p2⟩ := q3.pairs h2
        refine ⟨_, _, _, kvs, rfl, q1, q2, p1, by rw [p2.keys]; exact nodupB_ok hl.1, by rw [q3.length]; exact hl.2, fun l hl' => ?_⟩
        exact q _ _ (same_new hl') ⟨l, kvs, rfl, upd_same, p2.mono (same_tup (same_new hl'))⟩
    · cases h1
  · cases hg
def gKey : Vl → Vl → Option Vl := fun a b => match a with
  | .m kds => (datOf b).bind fun d => (keyT d).bind fun k => (valD kds k).map .d
  | _ => none
def eKey : (List Vl → Option Vl) → (List Vl → Option Vl) → List Vl → Option Vl := e2 gKey
theorem d_key (hu : X.A.units + 100 < cLine) (ha : PE X a (tD K fa)) (hb : PE X b (tD K fb)) (hs : NoSl b := by exact fun _ _ => rfl) : PE X (.Subscript a b pos) (tD K (eKey fa fb)) := by
  refine pe_wk (pe_dget (by omega) ha hb hs) fun σ H Q h => ?_
  obtain ⟨H0, env, val, s0, he, hf, q⟩ := h
  obtain ⟨x, hx, hf⟩ := Option.bind_eq_some_iff.mp hf
  obtain ⟨y, hy, hf⟩ := Option.bind_eq_some_iff.mp hf
  refine ⟨H0, env, x, s0, he, hx, fun v H1 s1 hv => ⟨H0, env, y, s0.trans s1, he.same s1, hy, fun u H2 s2 hu => ?_⟩⟩
  unfold gKey at hf
  split at hf
  · rename_i kds
    obtain ⟨d, h1, hf⟩ := Option.bind_eq_some_iff.mp hf
    obtain ⟨k, h2, hf⟩ := Option.bind_eq_some_iff.mp hf
    obtain ⟨z, h3, hf⟩ := Option.map_eq_some_iff.mp hf
    subst hf
    obtain ⟨p, ws, rfl, q1, q2⟩ := hv.same s2
    obtain ⟨bb, rfl, hb'⟩ := (hu.dat h1).keyT h2
    obtain ⟨w, e1, e2⟩ := q2.val h3
    refine ⟨p, w, rfl, ?_, q w H2 (s1.trans s2) e2⟩
    rw [← e1]
    exact DGet.t q1 hb'
  · cases hf
/-! ### sorted, the pairs' keys rising already -/
def kindsB : List Key → List Key → Bool
  | x :: xs, y :: ys => (decide (x = y) || sameKind x y) && kindsB xs ys
  | _, _ => true
theorem kindsB_at : ∀ {a b : List Key} {m : Nat} {x y : Key}, kindsB a b = true → a[m]? = some x → b[m]? = some y → x ≠ y → sameKind x y = true
  | [], _, _, _, _, _, h, _, _ => by simp at h
  | _ :: _, [], _, _, _, _, _, h, _ => by simp at h
  | x :: xs, y :: ys, 0, _, _, h, h1, h2, hn => by
    simp only [List.getElem?_cons_zero, Option.some.injEq] at h1 h2
    subst h1 h2
    simp only [kindsB, Bool.and_eq_true, Bool.or_eq_true, decide_eq_true_eq] at h
    rcases h.1 with e | e
    · exact absurd e hn
    · exact e
  | x :: xs, y :: ys, m + 1, _, _, h, h1, h2, hn => by
    simp only [kindsB, Bool.and_eq_true] at h
    exact kindsB_at h.2 (by simpa using h1) (by simpa using h2) hn
def riseB : List (List Key) → Bool
  | [] => true
  | k :: r => (r.all fun j => lexK k j && !lexK j k && !decide (k = j) && kindsB k j) && riseB r
theorem riseB_ok : ∀ {l : List (List Key)}, riseB l = true → RiseK l
  | [], _ => fun i j a b _ h => by simp at h
  | k :: r, h => by
    simp only [riseB, Bool.and_eq_true, List.all_eq_true, Bool.not_eq_true', decide_eq_false_iff_not] at h
    obtain ⟨h1, h2⟩ := h
    intro i j a b hij ha hb
    cases j with
    | zero => omega
    | succ j =>
      cases i with
      | zero =>
        simp only [List.getElem?_cons_zero, Option.some.injEq] at ha
        subst ha
        obtain ⟨⟨⟨q1, q2⟩, q3⟩, q4⟩ := h1 b (List.mem_of_getElem? (by simpa using hb))
        exact ⟨q1, q2, q3, fun m x y e1 e2 hn => kindsB_at q4 e1 e2 hn⟩
      | succ i => exact riseB_ok h2 i j a b (by omega) (by simpa using ha) (by simpa using hb)
def gSortP : Vl → Option Vl := fun a => (lstOf a).bind fun xs => (pairsD xs).bind fun kds => if riseB (kds.map (·.1)) = true ∧ (kds.all fun kd => SeqAt.shaped (pd kd.2)) = true then some (.o xs) else none
theorem MapR.all {H : Hp} {kvs : List (List Key × V)} {kds : List (List Key × D)} (h : MapR K H kvs kds) (hs : (kds.all fun kd => SeqAt.shaped (pd kd.2)) = true) : ∀ kv ∈ kvs, ∃ d, Dp K H kv.2 d ∧ SeqAt.shaped d = true := by
  induction h with
  | nil => intro kv hkv; cases hkv
  | @cons k v d r s h1 _ ih =>
    rw [List.all_cons, Bool.and_eq_true] at hs
    intro kv hkv
    rcases List.mem_cons.mp hkv with e | hkv
    · subst e
      exact ⟨pd d, Rep.dp d v h1, hs.1⟩
    · exact ih hs.2 kv hkv
theorem d_sortP (hK : X.K = K) (hu : X.A.units + 100 < cLine) (hg : Gl X "sorted") (hm : X.mg "sorted" = none) (ha : PA X [a] (tA K fs)) (he : starEach [a] X.env = (false, eval a X.env) :: starEach [] X.env := by rfl) :
    PE X (.Call (.Name "sorted" p) [a] [] pos) (tD K (eB1 gSortP fs)) := by
  subst hK
  refine d_callB (cr_sortedR (by omega)) (fun H0 H x a val Q s0 hx hg q => ?_) hg hm PyProof.Rows.boot_sorted ha (by decide) (by decide) he
  obtain ⟨xs, h1, hg⟩ := Option.bind_eq_some_iff.mp hg
  obtain ⟨kds, h2, hg⟩ := Option.bind_eq_some_iff.mp hg
  split at hg
  · rename_i hl
    cases hg
    obtain ⟨p, vs, rfl, hq, r⟩ := hx.lst h1
    obtain ⟨kvs, p1, p2⟩ := r.pairs h2
    exact ⟨p, vs, kvs, rfl, .of hq, p1, p2.all hl.2, by rw [p2.keys]; exact riseB_ok hl.1, fun l hl' => q _ _ (same_new hl') ⟨l, vs, rfl, hl', upd_same, r.mono (same_tup (same_new hl'))⟩⟩
  · cases hg

/-! ### sources -/
/-- J gives these data while the heap keeps what Hs and (of tuples) Ht hold -/
structure Gives (K : PySem.W.Frag) (J : It) (ds : List D) (Hs Ht : Hp) : Prop where
  ex : ∃ (G : Hp → Prop) (Y : Nat → Hp → V → Hp → Prop), Walk J ds.length G Y ∧ (∀ H, Same Hs H → TupLe Ht H → G H) ∧
    ∀ i H x H', i < ds.length → Same Hs H → TupLe Ht H → Y i H x H' → Same H H' ∧ ∃ d, ds[i]? = some d ∧ Rep K H' x d
/-- own: no list but one that came with the source -/
def tI (K : PySem.W.Frag) (own : Bool) (f : List Vl → Option (List D)) : TI := fun σ H R => ∃ H0 env ds, Same H0 H ∧ EnvOk K H0 H σ env ∧ f env = some ds ∧
  ∀ J H1 (o : Option (Addr × List V)), Same H H1 → (∀ p vs, o = some (p, vs) → (own = true → H p = none) ∧ H1 p = some (.lst vs)) → (∀ Hs, (∀ p vs, o = some (p, vs) → Hs p = some (.lst vs)) → Gives K J ds Hs H1) → R J H1
theorem pi_wk {tg it : Expr} {t t' : TI} (h : PI X tg it t) (w : ∀ σ H R, t' σ H R → t σ H R) : PI X tg it t' := ⟨fun pins s σ H R I q => h.run pins s σ H R I (w σ H R q)⟩
def sLst (f : List Vl → Option Vl) : List Vl → Option (List D) := fun env => (f env).bind lstOf
def sOwn (f : List Vl → Option Vl) : List Vl → Option (List D) := fun env => (f env).bind fun x => match x with
  | .o xs => some xs
  | _ => none
def sTup (f : List Vl → Option Vl) : List Vl → Option (List D) := fun env => (f env).bind anyTup
theorem gives_list {p : Addr} {vs : List V} {ds : List D} {Hs Ht : Hp} (h : Hs p = some (.lst vs)) (r : RepL K Ht vs ds) : Gives K (Itl K p) ds Hs Ht := by
  refine ⟨_, _, r.length ▸ walk_list (K := K) (a := p) (xs := vs), fun H s t => .of (s _ _ h), fun i H x H' _ s t y => ?_⟩
  obtain ⟨rfl, y⟩ := y
  obtain ⟨d, e, rd⟩ := r.get' y
  exact ⟨Same.refl _, d, e, Rep.mono t d x rd⟩
theorem gives_tup {p : Addr} {vs : List V} {ds : List D} {Hs Ht : Hp} (h : ∀ H, TupLe Ht H → SqT K H p vs) (r : RepL K Ht vs ds) : Gives K (Itt K p) ds Hs Ht := by
  refine ⟨_, _, r.length ▸ walk_tup (K := K) (a := p) (xs := vs), fun H s t => h H t, fun i H x H' _ s t y => ?_⟩
  obtain ⟨rfl, y⟩ := y
  obtain ⟨d, e, rd⟩ := r.get' y
  exact ⟨Same.refl _, d, e, Rep.mono t d x rd⟩
theorem RepX.anyS {N : Addr → Prop} {H0 H : Hp} {v : V} {x : Vl} {xs : List D} (h : RepX K N H0 H v x) (e : anyTup x = some xs) : ∃ a vs, v = .ref a ∧ (∀ H', TupLe H H' → SqT K H' a vs) ∧ RepL K H vs xs := by
  unfold anyTup at e
  split at e
  · cases e
    cases (show Rep K H v (.tup xs) from h) with
    | tup h1 h2 => exact ⟨_, _, rfl, fun H' t => .of (t.t _ _ h1), h2⟩
  · cases e
    cases (show Rep K H v (.tp xs) from h) with
    | tp h1 _ h2 => exact ⟨_, _, rfl, fun H' t => .inl (.inr ⟨_, t.f _ _ _ h1⟩), h2⟩
  · cases e
    cases (show Rep K H v (.tk xs) from h) with
    | tk h1 h2 => exact ⟨_, _, rfl, fun H' _ => h1 _, h2⟩
  · cases e
theorem i_lst {tg : Expr} (hK : X.K = K) (ha : PE X a (tD K fa)) : PI X tg a (tI K false (sLst fa)) := by
  subst hK
  refine pi_wk (pi_list ha) fun σ H R h => ?_
  obtain ⟨H0, env, ds, s0, he, hf, q⟩ := h
  obtain ⟨x, hx, hf⟩ := Option.bind_eq_some_iff.mp hf
  refine ⟨H0, env, x, s0, he, hx, fun v H1 s1 hv => ?_⟩
  obtain ⟨p, vs, rfl, hq, r⟩ := hv.lst hf
  refine ⟨p, rfl, ⟨vs, .of hq⟩, q _ H1 (some (p, vs)) s1 (fun p' vs' e => ?_) fun Hs hs => gives_list (hs p vs rfl) r⟩
  cases e
  exact ⟨(fun z => nomatch z), hq⟩
theorem i_own {tg : Expr} (hK : X.K = K) (ha : PE X a (tD K fa)) : PI X tg a (tI K true (sOwn fa)) := by
  subst hK
  refine pi_wk (pi_list ha) fun σ H R h => ?_
  obtain ⟨H0, env, ds, s0, he, hf, q⟩ := h
  obtain ⟨x, hx, hf⟩ := Option.bind_eq_some_iff.mp hf
  refine ⟨H0, env, x, s0, he, hx, fun v H1 s1 hv => ?_⟩
  split at hf
  · cases hf
    obtain ⟨p, vs, rfl, hn, hq, r⟩ := hv
    refine ⟨p, rfl, ⟨vs, .of hq⟩, q _ H1 (some (p, vs)) s1 (fun p' vs' e => ?_) fun Hs hs => gives_list (hs p vs rfl) r⟩
    cases e
    exact ⟨fun _ => hn, hq⟩
  · cases hf
theorem i_tup {tg : Expr} {own : Bool} (hK : X.K = K) (ha : PE X a (tD K fa)) : PI X tg a (tI K own (sTup fa)) := by
  subst hK
  refine pi_wk (pi_tup ha) fun σ H R h => ?_
  obtain ⟨H0, env, ds, s0, he, hf, q⟩ := h
  obtain ⟨x, hx, hf⟩ := Option.bind_eq_some_iff.mp hf
  refine ⟨H0, env, x, s0, he, hx, fun v H1 s1 hv => ?_⟩
  obtain ⟨p, vs, rfl, hT, r⟩ := hv.anyS hf
  exact ⟨p, rfl, ⟨vs, hT _ TupLe.refl⟩, q _ H1 none s1 (fun p' vs' e => nomatch e) fun Hs hs => gives_tup hT r⟩
/-- ranges -/
def rowI (lo c : Int) (n : Nat) : List D := (List.range n).map fun (i : Nat) => D.int (lo + (i : Int) * c)
theorem rowI_len {lo c : Int} {n : Nat} : (rowI lo c n).length = n := by simp [rowI]
theorem rowI_at {lo c : Int} {n i : Nat} (h : i < n) : (rowI lo c n)[i]? = some (.int (lo + (i : Int) * c)) := by
  unfold rowI
  rw [List.getElem?_map, List.getElem?_range h]
  rfl
theorem gives_range {lo : Int} {n : Nat} {Hs Ht : Hp} : Gives K (Itr lo n) (rowI lo 1 n) Hs Ht := by
  refine ⟨fun _ => True, YFn fun i => .int (lo + i), by rw [rowI_len]; exact walk_range, fun _ _ _ => trivial, fun i H x H' hi s t y => ?_⟩
  obtain ⟨rfl, rfl⟩ := y
  rw [rowI_len] at hi
  have e : lo + (i : Int) * 1 = lo + (i : Int) := by omega
  exact ⟨Same.refl _, _, rowI_at hi, by rw [e]; exact Rep.int _⟩
theorem gives_rangeC {lo c : Int} {n : Nat} {Hs Ht : Hp} : Gives K (Itc lo c n) (rowI lo c n) Hs Ht := by
  refine ⟨fun _ => True, YFn fun i => .int (lo + (i : Nat) * c), by rw [rowI_len]; exact walk_rangeC, fun _ _ _ => trivial, fun i H x H' hi s t y => ?_⟩
  obtain ⟨rfl, rfl⟩ := y
  rw [rowI_len] at hi
  exact ⟨Same.refl _, _, rowI_at hi, Rep.int _⟩
def lims (i : Int) : Bool := decide (-(2 ^ 62) ≤ i) && decide (i < 2 ^ 62)
theorem lims_ok {i : Int} (h : lims i = true) : -(2 ^ 62) ≤ i ∧ i < 2 ^ 62 := by simpa [lims] using h
def sRng1 (f : List Vl → Option (List Vl)) : List Vl → Option (List D) := fun env => (f env).bind fun as => match as with
  | [a] => (intOf a).bind fun j => if lims j = true then some (rowI 0 1 j.toNat) else none
  | _ => none
def sRng3 (f : List Vl → Option (List Vl)) : List Vl → Option (List D) := fun env => (f env).bind fun as => match as with
  | [a, b, c] => (intOf a).bind fun i => (intOf b).bind fun j => (intOf c).bind fun k => if k ≠ 0 ∧ k.natAbs < 1073741824 ∧ Builtin.Range.small i j k = true ∧ 0 ≤ Builtin.Range.rangeSize i j k then some (rowI i k (Builtin.Range.rangeSize i j k).toNat) else none
  | _ => none
theorem i_rng1 {tg : Expr} {own : Bool} (hg : Gl X "range") (hm : X.mg "range" = none) (ha : PA X [a] (tA K fs)) (hs : starEach [a] X.env = [(false, eval a X.env)] := by rfl) :
    PI X tg (.Call (.Name "range" p) [a] [] pos) (tI K own (sRng1 fs)) := by
  refine pi_wk (pi_range1 hg hm ha hs) fun σ H R h => ?_
  obtain ⟨H0, env, ds, s0, he, hf, q⟩ := h
  obtain ⟨as, hx, hf⟩ := Option.bind_eq_some_iff.mp hf
  refine ⟨H0, env, as, s0, he, hx, fun vs H1 s1 hv => ?_⟩
  cases hv with
  | nil => cases hf
  | cons h1 t =>
    cases t with
    | cons _ _ => cases hf
    | nil =>
      obtain ⟨j, e1, hf⟩ := Option.bind_eq_some_iff.mp hf
      split at hf
      · rename_i hl
        cases hf
        obtain ⟨l1, l2⟩ := lims_ok hl
        exact ⟨j, by rw [h1.int e1], l1, l2, q _ H1 none s1 (fun _ _ e => nomatch e) fun Hs _ => gives_range⟩
      · cases hf
theorem i_rng3 {tg : Expr} {own : Bool} (hg : Gl X "range") (hm : X.mg "range" = none) (ha : PA X [a, b, c] (tA K fs)) (hs : starEach [a, b, c] X.env = (false, eval a X.env) :: starEach [b, c] X.env := by rfl) (hpl : (backTo pos (starEach [b, c] X.env)).any (·.1) = false := by rfl) :
    PI X tg (.Call (.Name "range" p) [a, b, c] [] pos) (tI K own (sRng3 fs)) := by
  refine pi_wk (pi_range3 hg hm ha hs hpl) fun σ H R h => ?_
  obtain ⟨H0, env, ds, s0, he, hf, q⟩ := h
  obtain ⟨as, hx, hf⟩ := Option.bind_eq_some_iff.mp hf
  refine ⟨H0, env, as, s0, he, hx, fun vs H1 s1 hv => ?_⟩
  cases hv with
  | nil => cases hf
  | cons h1 t =>
    cases t with
    | nil => cases hf
    | cons h2 t =>
      cases t with
      | nil => cases hf
      | cons h3 t =>
        cases t with
        | cons _ _ => cases hf
        | nil =>
          obtain ⟨i, e1, hf⟩ := Option.bind_eq_some_iff.mp hf
          obtain ⟨j, e2, hf⟩ := Option.bind_eq_some_iff.mp hf
          obtain ⟨k, e3, hf⟩ := Option.bind_eq_some_iff.mp hf
          split at hf
          · rename_i hl
            cases hf
            refine ⟨i, j, k, (Builtin.Range.rangeSize i j k).toNat, by rw [h1.int e1, h2.int e2, h3.int e3], ⟨hl.1, hl.2.1, hl.2.2.1, ?_⟩, q _ H1 none s1 (fun _ _ e => nomatch e) fun Hs _ => gives_rangeC⟩
            omega
          · cases hf
/-- enumerate of a list, zip of a list and a tuple -/
def enumD : Nat → List D → List D
  | _, [] => []
  | i, d :: r => .tup [.int i, d] :: enumD (i + 1) r
theorem enumD_len : ∀ (l : List D) (i : Nat), (enumD i l).length = l.length
  | [], _ => rfl
  | _ :: r, i => by rw [enumD, List.length_cons, List.length_cons, enumD_len r]
theorem enumD_at : ∀ {l : List D} {i j : Nat} {d : D}, l[j]? = some d → (enumD i l)[j]? = some (.tup [.int ((i + j : Nat) : Int), d])
  | [], _, _, _, h => by simp at h
  | e :: r, i, 0, d, h => by
    simp only [List.getElem?_cons_zero, Option.some.injEq] at h
    subst h
    rfl
  | e :: r, i, j + 1, d, h => by
    have := enumD_at (l := r) (i := i + 1) (j := j) (d := d) (by simpa using h)
    have e : i + 1 + j = i + (j + 1) := by omega
    rw [e] at this
    simpa [enumD] using this
theorem gives_enum {p : Addr} {vs : List V} {ds : List D} {Hs Ht : Hp} (h : Hs p = some (.lst vs)) (r : RepL K Ht vs ds) : Gives K (Ite K p) (enumD 0 ds) Hs Ht := by
  refine ⟨fun H => SqL K H p vs, YPair (fun i => some (.int (i : Nat))) (fun i => vs[i]?), by rw [enumD_len, ← r.length]; exact walk_enum (K := K) (a := p) (xs := vs), fun H s t => .of (s _ _ h), fun i H v H' _ s t y => ?_⟩
  obtain ⟨T, x, y', rfl, hT, rfl, e1, e2⟩ := y
  cases e1
  obtain ⟨d, e, rd⟩ := r.get' e2
  have t' : TupLe Ht (upd H T (.tup [.int (i : Nat), y'])) := t.trans (same_tup (same_new hT))
  refine ⟨same_new hT, _, enumD_at e, ?_⟩
  rw [Nat.zero_add]
  exact Rep.tup upd_same (.cons (.int _) (.cons (Rep.mono t' d y' rd) .nil))
def sEnum (f : List Vl → Option (List Vl)) : List Vl → Option (List D) := fun env => (f env).bind fun as => match as with
  | [.o xs] => some (enumD 0 xs)
  | _ => none
/-- arguments keep what is new in them -/
def tA' (K : PySem.W.Frag) (f : List Vl → Option (List Vl)) : TA := fun σ H Q => ∃ H0 env vals, Same H0 H ∧ EnvOk K H0 H σ env ∧ f env = some vals ∧ ∀ vs H', Same H H' → RepXs K (New H) H0 H' vs vals → Q vs H'
theorem a'_nil : PA X [] (tA' K aNil) := pa_wk pa_nil fun σ H Q h => by
  obtain ⟨H0, env, val, s0, he, hf, q⟩ := h
  cases hf
  exact q [] H (Same.refl H) .nil
theorem RepXs.weak {N N' : Addr → Prop} {H0 H : Hp} {vs : List V} {xs : List Vl} (h : RepXs K N H0 H vs xs) (n : ∀ a, N a → N' a) : RepXs K N' H0 H vs xs := by
  induction h with
  | nil => exact .nil
  | cons h _ ih => exact .cons (h.weak n) ih
theorem a'_cons (ha : PE X a (tD K fa)) (hr : PA X es (tA' K fs)) (hs : starEach (a :: es) X.env = (false, eval a X.env) :: starEach es X.env := by rfl) : PA X (a :: es) (tA' K (aCons fa fs)) :=
  pa_wk (pa_cons ha hr hs) fun σ H Q h => by
    obtain ⟨H0, env, val, s0, he, hf, q⟩ := h
    obtain ⟨x, hx, hf⟩ := Option.bind_eq_some_iff.mp hf
    obtain ⟨xs, hxs, hf⟩ := Option.map_eq_some_iff.mp hf
    subst hf
    refine ⟨H0, env, x, s0, he, hx, fun v H1 s1 hv => ?_⟩
    refine ⟨H0, env, xs, s0.trans s1, he.same s1, hxs, fun vs H2 s2 hvs => ?_⟩
    exact q (v :: vs) H2 (s1.trans s2) (.cons (hv.same s2) (hvs.weak fun p hp => s1.free hp))
theorem i_enum {elts : List Expr} {kk : Nat} {tpos : Pos} (hK : X.K = K) (hg : Gl X "enumerate") (hm : X.mg "enumerate" = none) (ha : PA X [a] (tA' K fs)) (hs : starEach [a] X.env = [(false, eval a X.env)] := by rfl) :
    PI X (.Tuple elts kk tpos) (.Call (.Name "enumerate" p) [a] [] pos) (tI K true (sEnum fs)) := by
  subst hK
  refine pi_wk (pi_enum hg hm ha hs) fun σ H R h => ?_
  obtain ⟨H0, env, ds, s0, he, hf, q⟩ := h
  obtain ⟨as, hx, hf⟩ := Option.bind_eq_some_iff.mp hf
  refine ⟨H0, env, as, s0, he, hx, fun ws H1 s1 hv => ?_⟩
  split at hf
  · cases hf
    cases hv with
    | cons h1 t =>
      cases t
      obtain ⟨p, vs, rfl, hn, hq, r⟩ := h1
      refine ⟨p, vs, rfl, .of hq, q _ H1 (some (p, vs)) s1 (fun p' vs' e => ?_) fun Hs hs => gives_enum (hs p vs rfl) r⟩
      cases e
      exact ⟨fun _ => hn, hq⟩
  · cases hf
def zipD : List D → List D → List D
  | x :: r, y :: s => .tup [x, y] :: zipD r s
  | _, _ => []
theorem zipD_len : ∀ {l m : List D}, (zipD l m).length = min l.length m.length
  | [], [] => rfl
  | _ :: r, _ :: s => by rw [zipD, List.length_cons, List.length_cons, List.length_cons, zipD_len (l := r) (m := s)]; omega
  | [], _ :: _ => by simp [zipD]
  | _ :: _, [] => by simp [zipD]
theorem zipD_at : ∀ {l m : List D} {i : Nat} {x y : D}, l[i]? = some x → m[i]? = some y → (zipD l m)[i]? = some (.tup [x, y])
  | [], _, _, _, _, h, _ => by simp at h
  | _ :: _, [], _, _, _, _, h => by simp at h
  | a :: r, b :: s, 0, x, y, h1, h2 => by
    simp only [List.getElem?_cons_zero, Option.some.injEq] at h1 h2
    subst h1 h2
    rfl
  | a :: r, b :: s, i + 1, x, y, h1, h2 => by simpa [zipD] using zipD_at (l := r) (m := s) (i := i) (by simpa using h1) (by simpa using h2)
def sZip (f : List Vl → Option (List Vl)) : List Vl → Option (List D) := fun env => (f env).bind fun as => match as with
  | [.o xs, b] => (anyTup b).map fun ys => zipD xs ys
  | _ => none
theorem i_zip {elts : List Expr} {kk : Nat} {tpos : Pos} (hK : X.K = K) (hg : Gl X "zip") (hm : X.mg "zip" = none) (ha : PA X [a, b] (tA' K fs))
    (hs : starEach [a, b] X.env = (false, eval a X.env) :: starEach [b] X.env := by rfl) (hpl : (backTo pos (starEach [b] X.env)).any (·.1) = false := by rfl) :
    PI X (.Tuple elts kk tpos) (.Call (.Name "zip" p) [a, b] [] pos) (tI K true (sZip fs)) := by
  subst hK
  refine pi_wk (pi_zipL hg hm ha hs hpl) fun σ H R h => ?_
  obtain ⟨H0, env, ds, s0, he, hf, q⟩ := h
  obtain ⟨as, hx, hf⟩ := Option.bind_eq_some_iff.mp hf
  refine ⟨H0, env, as, s0, he, hx, fun ws H1 s1 hv => ?_⟩
  split at hf
  · rename_i xs bb
    obtain ⟨ys, e1, hf⟩ := Option.map_eq_some_iff.mp hf
    subst hf
    · cases hv with
      | cons h1 t =>
        cases t with
        | cons h2 t =>
          cases t
          obtain ⟨p, vs, rfl, hn, hq, r⟩ := h1
          obtain ⟨p2, us, rfl, hT, r2⟩ := h2.anyS e1
          refine ⟨p, p2, vs, us, rfl, .of hq, hT _ TupLe.refl, q _ H1 (some (p, vs)) s1 (fun p' vs' e => ?_) fun Hs hs => ?_⟩
          · cases e
            exact ⟨fun _ => hn, hq⟩
          · refine ⟨fun H => SqL X.K H p vs ∧ SqT X.K H p2 us, YPair (fun i => vs[i]?) (fun i => us[i]?), walk_zipL (K := X.K) (a := p) (b := p2) (xs := vs) (ys := us) (by rw [zipD_len, r.length, r2.length]), fun H s t => ⟨.of (s _ _ (hs p vs rfl)), hT H t⟩, fun i H v H' _ s t y => ?_⟩
            obtain ⟨T, x, y', rfl, hT', rfl, g1, g2⟩ := y
            obtain ⟨d, e, rd⟩ := r.get' g1
            obtain ⟨d2, e2, rd2⟩ := r2.get' g2
            have t' : TupLe H1 (upd H T (.tup [x, y'])) := t.trans (same_tup (same_new hT'))
            exact ⟨same_new hT', _, zipD_at e e2, Rep.tup upd_same (.cons (Rep.mono t' d x rd) (.cons (Rep.mono t' d2 y' rd2) .nil))⟩
  · cases hf
end
end K98

/-! ## DL5 -/
/-! Targets, comprehensions, statements, defs, calls. -/
namespace K98
open PySem PySem.Spec PyProof.Rows L2

/-! ### slots -/
theorem EnvOk.set {K : PySem.W.Frag} {H0 H : Hp} {σ : L2.St} {env : List Vl} (h : EnvOk K H0 H σ env) {i : Nat} {v : V} {x : Vl} (hv : RepX K (New H0) H0 H v x) (hp : noP x = true)
    (ho : isOwn x = true → ∀ j y, env[j]? = some y → isLst y = true → j ≠ i → σ[j]? ≠ some (some v)) (hl : isLst x = true → ∀ j y, env[j]? = some y → isOwn y = true → j ≠ i → σ[j]? ≠ some (some v)) :
    EnvOk K H0 H (σ.set i (some v)) (env.set i x) := by
  refine ⟨by rw [List.length_set, List.length_set]; exact h.len, fun j y e n => ?_, fun j k y z hjk ey ez oy lz => ?_, fun j y e => ?_⟩
  · by_cases hj : i = j
    · subst hj
      have hi : i < env.length := by
        have := (List.getElem?_eq_some_iff.mp e).1
        rwa [List.length_set] at this
      rw [List.getElem?_set_self hi] at e
      cases e
      exact ⟨v, List.getElem?_set_self (by rw [h.len]; exact hi), hv⟩
    · rw [List.getElem?_set_ne hj] at e ⊢
      exact h.at_ j y e n
  · by_cases hj : i = j
    · subst hj
      have hi : i < env.length := by
        have := (List.getElem?_eq_some_iff.mp ey).1
        rwa [List.length_set] at this
      rw [List.getElem?_set_self hi] at ey
      cases ey
      rw [List.getElem?_set_ne hjk] at ez ⊢
      rw [List.getElem?_set_self (by rw [h.len]; exact hi)]
      exact (ho oy k z ez lz (Ne.symm hjk)).symm
    · rw [List.getElem?_set_ne hj] at ey ⊢
      by_cases hk : i = k
      · subst hk
        have hi : i < env.length := by
          have := (List.getElem?_eq_some_iff.mp ez).1
          rwa [List.length_set] at this
        rw [List.getElem?_set_self hi] at ez
        cases ez
        rw [List.getElem?_set_self (by rw [h.len]; exact hi)]
        exact hl lz j y ey oy (Ne.symm hj)
      · rw [List.getElem?_set_ne hk] at ez ⊢
        exact h.sep j k y z hjk ey ez oy lz
  · by_cases hj : i = j
    · subst hj
      have hi : i < env.length := by
        have := (List.getElem?_eq_some_iff.mp e).1
        rwa [List.length_set] at this
      rw [List.getElem?_set_self hi] at e
      cases e
      exact hp
    · rw [List.getElem?_set_ne hj] at e
      exact h.nop j y e
theorem EnvOk.setD {K : PySem.W.Frag} {H0 H : Hp} {σ : L2.St} {env : List Vl} (h : EnvOk K H0 H σ env) {i : Nat} {v : V} {x : D} (hv : Rep K H v x) : EnvOk K H0 H (σ.set i (some v)) (env.set i (.d x)) :=
  h.set (x := .d x) hv rfl (fun z => nomatch z) (fun z => nomatch z)
def wipeE (env : List Vl) : List Nat → List Vl
  | [] => env
  | v :: vs => (wipeE env vs).set v .un
theorem EnvOk.un1 {K : PySem.W.Frag} {H0 H : Hp} {σ : L2.St} {env : List Vl} (h : EnvOk K H0 H σ env) (i : Nat) : EnvOk K H0 H (σ.set i none) (env.set i .un) := by
  refine ⟨by rw [List.length_set, List.length_set]; exact h.len, fun j y e n => ?_, fun j k y z hjk ey ez oy lz => ?_, fun j y e => ?_⟩
  · by_cases hj : i = j
    · subst hj
      have hi : i < env.length := by
        have := (List.getElem?_eq_some_iff.mp e).1
        rwa [List.length_set] at this
      rw [List.getElem?_set_self hi] at e
      cases e
      exact absurd rfl n
    · rw [List.getElem?_set_ne hj] at e ⊢
      exact h.at_ j y e n
  · have hj : i ≠ j := by
      intro hj
      subst hj
      have hi : i < env.length := by
        have := (List.getElem?_eq_some_iff.mp ey).1
        rwa [List.length_set] at this
      rw [List.getElem?_set_self hi] at ey
      cases ey
      cases oy
    have hk : i ≠ k := by
      intro hk
      subst hk
      have hi : i < env.length := by
        have := (List.getElem?_eq_some_iff.mp ez).1
        rwa [List.length_set] at this
      rw [List.getElem?_set_self hi] at ez
      cases ez
      cases lz
    rw [List.getElem?_set_ne hj] at ey ⊢
    rw [List.getElem?_set_ne hk] at ez ⊢
    exact h.sep j k y z hjk ey ez oy lz
  · by_cases hj : i = j
    · subst hj
      have hi : i < env.length := by
        have := (List.getElem?_eq_some_iff.mp e).1
        rwa [List.length_set] at this
      rw [List.getElem?_set_self hi] at e
      cases e
      rfl
    · rw [List.getElem?_set_ne hj] at e
      exact h.nop j y e
theorem EnvOk.wipe {K : PySem.W.Frag} {H0 H : Hp} {σ : L2.St} {env : List Vl} (h : EnvOk K H0 H σ env) : ∀ vs : List Nat, EnvOk K H0 H (L2.wipe σ vs) (wipeE env vs)
  | [] => h
  | v :: vs => (EnvOk.wipe h vs).un1 v
theorem wipe_in {σ : L2.St} {i : Nat} : ∀ {vs : List Nat}, i ∈ vs → i < σ.length → (L2.wipe σ vs)[i]? = some none
  | [], h, _ => by cases h
  | v :: vs, h, hi => by
    unfold L2.wipe
    by_cases hv : v = i
    · subst hv
      exact List.getElem?_set_self (by rw [wipe_length]; exact hi)
    · rw [List.getElem?_set_ne hv]
      refine wipe_in ?_ hi
      rcases List.mem_cons.mp h with e | h
      · exact absurd e.symm hv
      · exact h
theorem wipe_ext {σ τ : L2.St} {vs : List Nat} (hl : σ.length = τ.length) (h : ∀ i, i ∉ vs → σ[i]? = τ[i]?) : L2.wipe σ vs = L2.wipe τ vs := by
  apply List.ext_getElem?
  intro i
  by_cases hi : i ∈ vs
  · by_cases hn : i < σ.length
    · rw [wipe_in hi hn, wipe_in hi (hl ▸ hn)]
    · rw [List.getElem?_eq_none (by rw [wipe_length]; omega), List.getElem?_eq_none (by rw [wipe_length]; omega)]
  · rw [wipe_out hi, wipe_out hi, h i hi]
theorem wipe_set {σ : L2.St} {vs : List Nat} {i : Nat} {o : Option V} (hi : i ∈ vs) : L2.wipe (σ.set i o) vs = L2.wipe σ vs :=
  wipe_ext (by rw [List.length_set]) fun j hj => List.getElem?_set_ne (fun e => hj (by rw [← e]; exact hi))
theorem wipe_wipe {σ : L2.St} {vs : List Nat} : L2.wipe (L2.wipe σ vs) vs = L2.wipe σ vs := wipe_ext (wipe_length σ vs) fun i hi => wipe_out hi

/-! ### targets -/
section
variable {K : PySem.W.Frag} {X : Cx} {a b c e : Expr} {es : List Expr} {fa fb fc : List Vl → Option Vl} {fs : List Vl → Option (List Vl)} {ga gb : List Vl → Option Bool} {pos pos' : Pos} {x : PySem.Str} {p : Pos}
def tG (K : PySem.W.Frag) (gd : D → List Vl → Option (List Vl)) (idx : List Nat) : TG := fun x σ H Q => ∃ H0 env d env', EnvOk K H0 H σ env ∧ Rep K H x d ∧ gd d env = some env' ∧
  ∀ σ', EnvOk K H0 H σ' env' → (∀ vs : List Nat, (∀ i ∈ idx, i ∈ vs) → L2.wipe σ' vs = L2.wipe σ vs) → Q σ' H
theorem pg_wk {t : Expr} {g g' : TG} (h : PG X t g) (w : ∀ x σ H Q, g' x σ H Q → g x σ H Q) : PG X t g' := ⟨fun pins s σ H v u Q I r q => h.run pins s σ H v u Q I r (w v σ H Q q)⟩
def gN (i : Nat) : D → List Vl → Option (List Vl) := fun d env => some (env.set i (.d d))
theorem g_name {i : Nat} (hN : X.N.Nodup) (hi : X.N[i]? = some x := by rfl) (hx : Loc X.env.scope x := by first | exact Or.inl rfl | exact Or.inr rfl) (hf : X.fn x = true ∨ X.env.scope.names.lookup x = some .local := by first | exact .inl rfl | exact .inr rfl | assumption) : PG X (.Name x pos) (tG K (gN i) [i]) :=
  pg_wk (pg_name hN hi hx hf) fun v σ H Q h => by
    obtain ⟨H0, env, d, env', he, hv, hg, q⟩ := h
    cases hg
    exact q _ (he.setD hv) fun vs hvs => wipe_set (hvs i List.mem_cons_self)
def gNames : List Nat → TGs
  | [] => gNil
  | i :: r => gCons (gName i) (gNames r)
def setAll : List Nat → List D → List Vl → List Vl
  | i :: r, x :: s, env => setAll r s (env.set i (.d x))
  | _, _, env => env
def gP (is : List Nat) : D → List Vl → Option (List Vl) := fun d env => (anyTup (.d d)).bind fun xs => if xs.length = is.length then some (setAll is xs env) else none
theorem gNames_run {H0 H : Hp} {Q : L2.St → Hp → Prop} : ∀ {is : List Nat} {ds : List D} {vs : List V} {σ : L2.St} {env : List Vl}, RepL K H vs ds → ds.length = is.length → EnvOk K H0 H σ env →
    (∀ σ', EnvOk K H0 H σ' (setAll is ds env) → (∀ ws : List Nat, (∀ i ∈ is, i ∈ ws) → L2.wipe σ' ws = L2.wipe σ ws) → Q σ' H) → gNames is vs σ H Q
  | [], ds, vs, σ, env, r, hl, he, q => by
    cases ds with
    | nil => cases r; exact ⟨rfl, q σ he fun _ _ => rfl⟩
    | cons _ _ => simp at hl
  | i :: is, ds, vs, σ, env, r, hl, he, q => by
    cases ds with
    | nil => simp at hl
    | cons d ds =>
      cases r with
      | cons h1 h2 =>
        refine ⟨_, _, rfl, gNames_run h2 (by simpa using hl) (he.setD h1) fun σ' he' hw => q σ' he' fun ws hws => ?_⟩
        rw [hw ws fun j hj => hws j (List.mem_cons_of_mem _ hj), wipe_set (hws i List.mem_cons_self)]
theorem g_tup {k : Nat} {is : List Nat} (hK : X.K = K) (hc : X.calm = true) (h : PGs X es (gNames is)) (hn : (assignEach es X.env).length = is.length := by rfl) (hst : (assignEach es X.env).findIdx? (·.1) = none := by rfl) : PG X (.Tuple es k pos) (tG K (gP is) is) := by
  subst hK
  refine pg_wk (pg_tup hc h hn hst) fun v σ H Q h => ?_
  obtain ⟨H0, env, d, env', he, hv, hg, q⟩ := h
  obtain ⟨xs, h1, hg⟩ := Option.bind_eq_some_iff.mp hg
  split at hg
  · rename_i hl
    cases hg
    obtain ⟨p, vs, rfl, hT, r⟩ := (show RepX X.K Any H0 H v (.d d) from hv).any' h1
    exact ⟨p, vs, rfl, hT, by rw [r.length, hl], gNames_run r hl he q⟩
  · cases hg
theorem gs_nil : PGs X [] (gNames []) := pgs_nil
theorem gs_cons {i : Nat} {is : List Nat} {tgs : List Expr} (hN : X.N.Nodup) (hr : PGs X tgs (gNames is)) (hi : X.N[i]? = some x := by rfl) (hx : Loc X.env.scope x := by first | exact Or.inl rfl | exact Or.inr rfl) (hf : X.fn x = true ∨ X.env.scope.names.lookup x = some .local := by first | exact .inl rfl | exact .inr rfl | assumption)
    (hs : (assignEach (.Name x pos :: tgs) X.env).map (·.2) = assign (.Name x pos) X.env :: (assignEach tgs X.env).map (·.2) := by rfl) : PGs X (.Name x pos :: tgs) (gNames (i :: is)) := pgs_cons (pg_name hN hi hx hf) hr hs

/-! ### comprehensions -/
def lcM (gd : D → List Vl → Option (List Vl)) (test : List Vl → Option Bool) (elt : List Vl → Option Vl) (envw : List Vl) : List D → Option (List D)
  | [] => some []
  | d :: r => (gd d envw).bind fun e2 => (test e2).bind fun k => if k = true then (elt e2).bind fun v => (datOf v).bind fun x => (lcM gd test elt envw r).map fun l => x :: l else lcM gd test elt envw r
def eLc (src : List Vl → Option (List D)) (gd : D → List Vl → Option (List Vl)) (test : List Vl → Option Bool) (elt : List Vl → Option Vl) (vs : List Nat) : List Vl → Option Vl :=
  fun env => (src env).bind fun ds => if ds.length ≤ 1000 then (lcM gd test elt (wipeE env vs) ds).map .o else none
def cYes : List Vl → Option Bool := fun _ => some true
theorem pts_wk {ifs : List Expr} {t t' : TT} (h : PTs X ifs t) (w : ∀ σ H Q, t' σ H Q → t σ H Q) : PTs X ifs t' := ⟨fun pins s σ H Q I q => h.run pins s σ H Q I (w σ H Q q)⟩
theorem ts_nil : PTs X [] (tT K cYes) := pts_wk pts_nil fun σ H Q h => by
  obtain ⟨H0, env, k, s0, he, hf, q⟩ := h
  cases hf
  exact q H (Same.refl H)
theorem ts_one (h : PT X c (tT K ga)) : PTs X [c] (tT K ga) := pts_one h
theorem lc_wk {own : Bool} {src : List Vl → Option (List D)} {gd : D → List Vl → Option (List Vl)} {idx : List Nat} {test : List Vl → Option Bool} {elt : List Vl → Option Vl} {vs : List Nat} (hidx : ∀ i ∈ idx, i ∈ vs) (σ : L2.St) (H : Hp) (Q : VK)
    (h : tD K (eLc src gd test elt vs) σ H Q) : tLc (tI K own src) (tG K gd idx) (tT K test) (tD K elt) vs σ H Q := by
  obtain ⟨H0, env, val, s0, he, hf, q⟩ := h
  obtain ⟨ds, hsrc, hf⟩ := Option.bind_eq_some_iff.mp hf
  split at hf
  · rename_i hlen
    obtain ⟨out, hM, hf⟩ := Option.map_eq_some_iff.mp hf
    subst hf
    refine ⟨H0, env, ds, s0, he, hsrc, fun J H1 o s1 ho hG D hD => ?_⟩
    obtain ⟨G, Y, w, hGs, hY⟩ := (hG H1 fun p vs e => (ho p vs e).2).ex
    refine lc_it w (fun i H => Same H1 H ∧ ∃ acc ads, H D = some (.lst acc) ∧ RepL K H acc ads ∧ acc.length ≤ i ∧ ∃ rest, lcM gd test elt (wipeE env vs) (ds.drop i) = some rest ∧ ads ++ rest = out)
      ⟨same_new hD, [], [], upd_same, .nil, Nat.le_refl _, out, hM, rfl⟩ (fun i H _ p => hGs H p.1 (same_tup p.1)) ?_ ?_
    · rintro i x H H' hi ⟨sH, acc, ads, hacc, racc, hal, rest, hrest, hout⟩ y
      obtain ⟨sHH, d, hd, rd⟩ := hY i H x H' hi sH (same_tup sH) y
      have hdrop : ds.drop i = d :: ds.drop (i + 1) := by
        obtain ⟨hi', e⟩ := List.getElem?_eq_some_iff.mp hd
        rw [List.drop_eq_getElem_cons hi', e]
      rw [hdrop] at hrest
      obtain ⟨e2, hgd, hrest⟩ := Option.bind_eq_some_iff.mp hrest
      obtain ⟨k, ht, hrest⟩ := Option.bind_eq_some_iff.mp hrest
      have s01 : Same H0 H' := ((s0.trans s1).trans sH).trans sHH
      refine ⟨H0, wipeE env vs, d, e2, (he.same ((s1.trans sH).trans sHH)).wipe vs, rd, hgd, fun σ2 he2 hw => ⟨by rw [hw vs hidx, wipe_wipe], H0, e2, k, s01, he2, ht, fun H3 s3 => ?_⟩⟩
      by_cases hk : k = true
      · rw [if_pos hk] at hrest ⊢
        obtain ⟨v, hv, hrest⟩ := Option.bind_eq_some_iff.mp hrest
        obtain ⟨z, hz, hrest⟩ := Option.bind_eq_some_iff.mp hrest
        obtain ⟨l, hl, hrest⟩ := Option.map_eq_some_iff.mp hrest
        subst hrest
        refine ⟨H0, e2, v, s01.trans s3, he2.same s3, hv, fun y H4 s4 hy => ?_⟩
        have hD4 : H4 D = some (.lst acc) := s4 _ _ (s3 _ _ (sHH _ _ hacc))
        have tu : TupLe H4 (upd H4 D (.lst (acc ++ [y]))) := upd_tup (fun _ z => by rw [hD4] at z; cases z) fun _ _ z => by rw [hD4] at z; cases z
        have t4 : TupLe H H4 := same_tup ((sHH.trans s3).trans s4)
        refine ⟨acc, hD4, by rw [sizeLine_eq]; omega, fun b o e => ?_, acc ++ [y], ads ++ [z], upd_same, ?_, ?_, l, hl, by rw [← hout]; simp⟩
        · rw [upd_ne (ne_of_none e hD)]
          exact s4 _ _ (s3 _ _ (sHH _ _ (sH _ _ e)))
        · exact (racc.mono (t4.trans tu)).snoc (Rep.mono tu z y (hy.dat hz))
        · rw [List.length_append, List.length_singleton]; omega
      · rw [if_neg hk] at hrest ⊢
        have t3 : TupLe H H3 := same_tup (sHH.trans s3)
        exact ⟨(sH.trans sHH).trans s3, acc, ads, s3 _ _ (sHH _ _ hacc), racc.mono t3, by omega, rest, hrest, hout⟩
    · rintro H2 ⟨sH, acc, ads, hacc, racc, hal, rest, hrest, hout⟩
      rw [List.drop_length] at hrest
      cases hrest
      rw [List.append_nil] at hout
      subst hout
      exact q _ H2 (s1.trans sH) ⟨D, acc, rfl, s1.free hD, hacc, racc⟩
  · cases hf
theorem d_lc {elt tg iter : Expr} {ifs : List Expr} {scope : Scope} {own : List (PySem.Str × Nat)} {ow : Bool} {src : List Vl → Option (List D)} {gd : D → List Vl → Option (List Vl)} {idx : List Nat} {test : List Vl → Option Bool} {fe : List Vl → Option Vl} {vs : List Nat} (hc : X.calm = true) (hN : X.N.Nodup) (hi : PI X tg iter (tI K ow src)) (ok : BlkOk X.N X.env.scope scope own) (hvs : own.map (·.2) = vs) (hidx : ∀ i ∈ idx, i ∈ vs)
    (hg : ∀ (s : Shared) (H : Hp) (C : Addr) (cl : List (PySem.Str × Addr)) (fp : List Addr), PG (X.blk s H scope (compEnvC scope cl C X.env) fp) tg (tG K gd idx)) (ht : ∀ (s : Shared) (H : Hp) (C : Addr) (cl : List (PySem.Str × Addr)) (fp : List Addr), PTs (X.blk s H scope (compEnvC scope cl C X.env) fp) ifs (tT K test))
    (he : ∀ (s : Shared) (H : Hp) (C : Addr) (cl : List (PySem.Str × Addr)) (fp : List Addr), PE (X.blk s H scope (compEnvC scope cl C X.env) fp) elt (tD K fe)) (hs : ∀ x, foldedSetIterable iter X.env x = pure x := by intro _; rfl) :
    PE X (.ListComp elt [⟨tg, iter, ifs, 0⟩] scope pos) (tD K (eLc src gd test fe vs)) := by
  subst hvs
  exact pe_wk (pe_lc hc hN hi ok hg ht he hs) (lc_wk hidx)

/-! ### statements -/
def sNil : List Vl → Option Out := fun env => some (.nx env)
def sSeq (f g : List Vl → Option Out) : List Vl → Option Out := fun env => (f env).bind fun o => match o with
  | .nx e => g e
  | .rt r => some (.rt r)
variable {s : Stmt} {ss : List Stmt} {f g : List Vl → Option Out}
theorem ss_nil : PSs X [] (tS K sNil) := pss_wk pss_nil fun D σ H h => by
  obtain ⟨H0, env, out, s0, he, hf, q⟩ := h
  cases hf
  exact q σ H s0 TupLe.refl he
theorem ss_one (h : PS X s (tS K f)) : PSs X [s] (tS K f) := pss_one h
theorem ss_cons (h1 : PS X s (tS K f)) (h2 : PSs X ss (tS K g)) : PSs X (s :: ss) (tS K (sSeq f g)) := pss_wk (pss_cons h1 h2) fun D σ H h => by
  obtain ⟨H0, env, out, s0, he, hf, q⟩ := h
  obtain ⟨o, h1, hf⟩ := Option.bind_eq_some_iff.mp hf
  refine ⟨H0, env, o, s0, he, h1, ?_⟩
  cases o with
  | nx e => exact fun σ' H' s1 t1 he1 => ⟨H0, e, out, s1, he1, hf, q.up t1⟩
  | rt r => cases hf; exact q
def retV : Vl → Option Rt
  | .d x => some (.d x)
  | .o xs => some (.o xs)
  | .u xs => some (.o xs)
  | .p xs ys => some (.p xs ys)
  | .i C fs => some (.i C fs)
  | _ => none
def sRet (f : List Vl → Option Vl) : List Vl → Option Out := fun env => (f env).bind fun v => (retV v).map .rt
theorem RepX.ret {H0 H H' : Hp} {v : V} {x : Vl} {r : Rt} (s0 : Same H0 H) (h : RepX K (New H) H0 H' v x) (e : retV x = some r) : RepX K (New H0) H0 H' v r.v := by
  cases x with
  | d x => cases e; exact h
  | o xs =>
    cases e
    obtain ⟨a, vs, q1, q2, q3⟩ := h
    exact ⟨a, vs, q1, s0.free q2, q3⟩
  | u xs =>
    cases e
    obtain ⟨a, vs, q1, q2, q3⟩ := h
    exact ⟨a, vs, q1, q2, q3⟩
  | l _ => cases e
  | m _ => cases e
  | k _ => cases e
  | b _ => cases e
  | a _ => cases e
  | i C fs => cases e; exact h
  | p xs ys =>
    cases e
    obtain ⟨u, a, b, vs, ws, q, q0, n1, q1, r1, n2, q2, r2⟩ := h
    exact ⟨u, a, b, vs, ws, q, q0, n1, q1, r1, n2, q2, r2⟩
  | un => cases e
theorem s_ret (h : PE X e (tD K fa)) : PS X (.Return (some e) pos) (tS K (sRet fa)) := ps_wk (ps_ret h) fun D σ H h => by
  obtain ⟨H0, env, out, s0, he, hf, q⟩ := h
  obtain ⟨v, h1, hf⟩ := Option.bind_eq_some_iff.mp hf
  obtain ⟨r, h2, hf⟩ := Option.map_eq_some_iff.mp hf
  subst hf
  exact ⟨H0, env, v, s0, he, h1, fun u H' s1 hu => q u H' (s0.trans s1) (hu.ret s0 h2)⟩
def sIf (t : List Vl → Option Bool) (f g : List Vl → Option Out) : List Vl → Option Out := fun env => (t env).bind fun k => if k = true then f env else g env
theorem s_if {sa sb : List Stmt} (hc : PT X c (tT K ga)) (ha : PSs X sa (tS K f)) (hb : PSs X sb (tS K g)) : PS X (.If c sa sb pos) (tS K (sIf ga f g)) := ps_wk (ps_if hc ha hb) fun D σ H h => by
  obtain ⟨H0, env, out, s0, he, hf, q⟩ := h
  obtain ⟨k, h1, hf⟩ := Option.bind_eq_some_iff.mp hf
  refine ⟨H0, env, k, s0, he, h1, fun H1 s1 => ?_⟩
  by_cases hk : k = true
  · rw [if_pos hk] at hf
    show (if k = true then _ else _)
    rw [if_pos hk]
    exact ⟨H0, env, out, s0.trans s1, he.same s1, hf, q.up (same_tup s1)⟩
  · rw [if_neg hk] at hf
    show (if k = true then _ else _)
    rw [if_neg hk]
    exact ⟨H0, env, out, s0.trans s1, he.same s1, hf, q.up (same_tup s1)⟩
def sNo : List Vl → Option Out := fun _ => none
theorem ss_never : PSs X ss (tS K sNo) := pss_wk pss_never fun D σ H h => by
  obtain ⟨H0, env, out, s0, he, hf, q⟩ := h
  cases hf
theorem s_never : PS X s (tS K sNo) := ps_wk ps_never fun D σ H h => by
  obtain ⟨H0, env, out, s0, he, hf, q⟩ := h
  cases hf
def slotV : Vl → Option Vl
  | .d x => some (.d x)
  | .o xs => some (.o xs)
  | .m kvs => some (.m kvs)
  | .k kvs => some (.k kvs)
  | .i C fs => some (.i C fs)
  | _ => none
def sAsg (i : Nat) (f : List Vl → Option Vl) : List Vl → Option Out := fun env => (f env).bind fun v => (slotV v).map fun x => .nx (env.set i x)
theorem lst_at {H0 H : Hp} {v : V} {x : Vl} {N : Addr → Prop} (h : RepX K N H0 H v x) (hl : isLst x = true) : ∃ a ob, v = .ref a ∧ H a = some ob := by
  cases x with
  | o xs => obtain ⟨a, vs, q1, _, q3, _⟩ := h; exact ⟨a, _, q1, q3⟩
  | u xs => obtain ⟨a, vs, q1, _, q3, _⟩ := h; exact ⟨a, _, q1, q3⟩
  | k xs => obtain ⟨a, vs, q1, _, q3, _⟩ := h; exact ⟨a, _, q1, q3⟩
  | l xs => obtain ⟨a, vs, q1, q3, _⟩ := h; exact ⟨a, _, q1, q3⟩
  | d _ => cases hl
  | m _ => cases hl
  | b _ => cases hl
  | a _ => cases hl
  | p _ _ => cases hl
  | i _ _ => cases hl
  | un => cases hl
theorem isLst_un {y : Vl} (h : isLst y = true) : y ≠ .un := fun e => by rw [e] at h; cases h
theorem isOwn_lst {y : Vl} (h : isOwn y = true) : isLst y = true := by cases y <;> first | rfl | cases h
theorem asg_wk {i : Nat} {te : TE} (w : ∀ σ H Q, tD K fa σ H Q → te σ H Q) (D : Ends) (σ : L2.St) (H : Hp) (h : tS K (sAsg i fa) D σ H) : tAsg te (gName i) D σ H := by
  obtain ⟨H0, env, out, s0, he, hf, q⟩ := h
  obtain ⟨v, h1, hf⟩ := Option.bind_eq_some_iff.mp hf
  obtain ⟨x, h2, hf⟩ := Option.map_eq_some_iff.mp hf
  subst hf
  refine w _ _ _ ⟨H0, env, v, s0, he, h1, fun u H' s1 hu => ?_⟩
  have he' := he.same s1
  have far : ∀ {a : Addr}, H a = none → ∀ j y, env[j]? = some y → isLst y = true → σ[j]? ≠ some (some (V.ref a)) := fun {a} ha j y e ly z => by
    obtain ⟨v', e1, r⟩ := he.at_ j y e (isLst_un ly)
    rw [e1] at z
    cases z
    obtain ⟨a', vs', e2, e3⟩ := lst_at r ly
    cases e2
    rw [ha] at e3
    cases e3
  refine q _ H' (s0.trans s1) (same_tup s1) ?_
  cases v with
  | d x => cases h2; exact he'.setD hu
  | o xs =>
    cases h2
    obtain ⟨a, vs, rfl, q2, q3, q4⟩ := hu
    exact he'.set (x := .o xs) ⟨a, vs, rfl, s0.free q2, q3, q4⟩ rfl (fun _ j y e ly _ => far q2 j y e ly) (fun _ j y e oy _ => far q2 j y e (isOwn_lst oy))
  | m kvs => cases h2; exact he'.set (x := .m kvs) hu rfl (fun z => nomatch z) (fun z => nomatch z)
  | k kvs =>
    cases h2
    obtain ⟨a, vs, rfl, q2, q3, q4⟩ := hu
    exact he'.set (x := .k kvs) ⟨a, vs, rfl, s0.free q2, q3, q4⟩ rfl (fun _ j y e ly _ => far q2 j y e ly) (fun _ j y e oy _ => far q2 j y e (isOwn_lst oy))
  | b _ => cases h2
  | a _ => cases h2
  | p _ _ => cases h2
  | i C fs => cases h2; exact he'.set (x := .i C fs) hu rfl (fun z => nomatch z) (fun z => nomatch z)
  | u _ => cases h2
  | l _ => cases h2
  | un => cases h2
theorem s_set {i : Nat} (hN : X.N.Nodup) (h : PE X e (tD K fa)) (hi : X.N[i]? = some x := by rfl) (hx : Loc X.env.scope x := by first | exact Or.inl rfl | exact Or.inr rfl) (hs : swapsWith e (some (.Name x pos')) pos.line X.env = pure false := by rfl)
    (hf : X.fn x = true ∨ X.env.scope.names.lookup x = some .local := by first | exact .inl rfl | exact .inr rfl | assumption) : PS X (.Assign [.Name x pos'] e pos) (tS K (sAsg i fa)) := ps_wk (ps_set hN hi hx h hs hf) (asg_wk fun _ _ _ q => q)
theorem s_setLc {i : Nat} {py : Pos} {elt tg iter : Expr} {ifs : List Expr} {scope : Scope} {own : List (PySem.Str × Nat)} {ow : Bool} {src : List Vl → Option (List D)} {gd : D → List Vl → Option (List Vl)} {idx : List Nat} {test : List Vl → Option Bool} {fe : List Vl → Option Vl} {vs : List Nat} (hc : X.calm = true) (hN : X.N.Nodup) (hy : X.N[i]? = some x) (hyl : X.env.scope.names.lookup x = some .local)
    (hsw : swapsWith (.ListComp elt [⟨tg, iter, ifs, 0⟩] scope pos) (some (.Name x py)) pos'.line X.env = pure true) (hi : PI X tg iter (tI K ow src)) (ok : BlkOk X.N X.env.scope scope own) (hvs : own.map (·.2) = vs) (hidx : ∀ i ∈ idx, i ∈ vs)
    (hg : ∀ (s : Shared) (H : Hp) (C : Addr) (cl : List (PySem.Str × Addr)) (fp : List Addr), PG (X.blk s H scope (compEnvC scope cl C X.env) fp) tg (tG K gd idx)) (ht : ∀ (s : Shared) (H : Hp) (C : Addr) (cl : List (PySem.Str × Addr)) (fp : List Addr), PTs (X.blk s H scope (compEnvC scope cl C X.env) fp) ifs (tT K test))
    (he : ∀ (s : Shared) (H : Hp) (C : Addr) (cl : List (PySem.Str × Addr)) (fp : List Addr), PE (X.blk s H scope (compEnvC scope cl C X.env) fp) elt (tD K fe)) (hs : ∀ x, foldedSetIterable iter X.env x = pure x := by intro _; rfl) :
    PS X (.Assign [.Name x py] (.ListComp elt [⟨tg, iter, ifs, 0⟩] scope pos) pos') (tS K (sAsg i (eLc src gd test fe vs))) := by
  subst hvs
  exact ps_wk (ps_setLc hc hN hy hyl hsw hi ok hg ht he hs) (asg_wk (lc_wk hidx))
def sUnp (is : List Nat) (f : List Vl → Option Vl) : List Vl → Option Out := fun env => (f env).bind fun v => (anyTup v).bind fun xs => if xs.length = is.length then some (.nx (setAll is xs env)) else none
theorem s_unp {is : List Nat} {k : Nat} {tpos : Pos} (hK : X.K = K) (hc : X.calm = true) (hg : PGs X es (gNames is)) (h : PE X e (tD K fa)) (hn : (assignEach es X.env).length = is.length := by rfl) (hst : (assignEach es X.env).findIdx? (·.1) = none := by rfl)
    (hs : swapsWithSole [.Tuple es k tpos] e pos.line X.env = pure false := by rfl) (hw : swappedStores [.Tuple es k tpos] e X.env = pure none := by rfl)
    (h1 : (assignEach [.Tuple es k tpos] X.env).map (·.2) = [assign (.Tuple es k tpos) X.env] := by rfl) : PS X (.Assign [.Tuple es k tpos] e pos) (tS K (sUnp is fa)) := by
  subst hK
  refine ps_wk (ps_asg h (pg_tup hc hg hn hst) hs hw h1) fun D σ H h => ?_
  obtain ⟨H0, env, out, s0, he, hf, q⟩ := h
  obtain ⟨v, h1, hf⟩ := Option.bind_eq_some_iff.mp hf
  obtain ⟨xs, h2, hf⟩ := Option.bind_eq_some_iff.mp hf
  split at hf
  · rename_i hl
    cases hf
    refine ⟨H0, env, v, s0, he, h1, fun u H' s1 hu => ?_⟩
    obtain ⟨p, vs, rfl, hT, r⟩ := hu.any.any' h2
    exact ⟨p, vs, rfl, hT, by rw [r.length, hl], gNames_run r hl (he.same s1) fun σ' he' _ => q σ' H' (s0.trans s1) (same_tup s1) he'⟩
  · cases hf
end
end K98

/-! ## DL6 -/
/-! Loops, lists written in place, defs, calls. -/
namespace K98
open PySem PySem.Spec PyProof.Rows L2

/-- the base moved -/
theorem RepX.base {K : PySem.W.Frag} {H0 Hs H : Hp} {v : V} {x : Vl} (h : RepX K (New H0) H0 H v x) (n : ∀ a ob, H0 a = none → H a = some ob → isLst x = true → v = .ref a → Hs a = none) (np : ∀ a vs, H0 a = none → H a = some (.lst vs) → isLst x = false → Hs a = none) : RepX K (New Hs) Hs H v x := by
  cases x with
  | o xs => obtain ⟨a, vs, q1, q2, q3, q4⟩ := h; exact ⟨a, vs, q1, n a _ q2 q3 rfl q1, q3, q4⟩
  | u xs => obtain ⟨a, vs, q1, q2, q3, q4⟩ := h; exact ⟨a, vs, q1, n a _ q2 q3 rfl q1, q3, q4⟩
  | k xs => obtain ⟨a, vs, q1, q2, q3, q4⟩ := h; exact ⟨a, vs, q1, n a _ q2 q3 rfl q1, q3, q4⟩
  | p xs ys =>
    obtain ⟨t, a, b, vs, ws, q, q0, n1, q1, r1, n2, q2, r2⟩ := h
    exact ⟨t, a, b, vs, ws, q, q0, np a _ n1 q1 rfl, q1, r1, np b _ n2 q2 rfl, q2, r2⟩
  | d _ => exact h
  | l _ => exact h
  | m _ => exact h
  | b _ => exact h
  | a _ => exact h
  | i _ _ => exact h
  | un => exact h
theorem RepX.back {K : PySem.W.Frag} {H0 Hs H : Hp} {v : V} {x : Vl} (h : RepX K (New Hs) Hs H v x) (s : Same H0 Hs) : RepX K (New H0) H0 H v x :=
  h.base (fun a _ h1 _ _ _ => s.free h1) fun a _ h1 _ _ => s.free h1
theorem EnvOk.base {K : PySem.W.Frag} {H0 Hs H : Hp} {σ : L2.St} {env : List Vl} (h : EnvOk K H0 H σ env) (n : ∀ a ob, H0 a = none → H a = some ob → Hs a = none) : EnvOk K Hs H σ env :=
  ⟨h.len, fun i x e z => by obtain ⟨v, q1, q2⟩ := h.at_ i x e z; exact ⟨v, q1, q2.base (fun a ob h1 h2 _ _ => n a ob h1 h2) fun a _ h1 h2 _ => n a _ h1 h2⟩, h.sep, h.nop⟩
/-- an own list or dict written -/
theorem EnvOk.writeG {K : PySem.W.Frag} {H0 H : Hp} {σ : L2.St} {env : List Vl} (h : EnvOk K H0 H σ env) {i : Nat} {a : Addr} {x y : Vl} {o1 o2 : HO} (hi : env[i]? = some x) (hx : isOwn x = true) (hσ : σ[i]? = some (some (.ref a))) (hH : H a = some o1) (m1 : Mut (some o1)) (mT : ∀ kvs, o1 ≠ .dT kvs) (mI : ∀ C dx fs, o1 ≠ .ins C dx fs)
    (hyo : isOwn y = true) (hyl : isLst y = true) (hy : RepX K (New H0) H0 (upd H a o2) (.ref a) y) : EnvOk K H0 (upd H a o2) σ (env.set i y) := by
  have t : TupLe H (upd H a o2) := upd_tup (fun _ z => by rw [hH] at z; cases z; exact m1) fun _ _ z => by rw [hH] at z; cases z; exact m1
  have hil : i < env.length := (List.getElem?_eq_some_iff.mp hi).1
  refine ⟨by rw [List.length_set]; exact h.len, fun j z e n => ?_, fun j k u z hjk ey ez oy lz => ?_, fun j z e => ?_⟩
  · by_cases hj : i = j
    · subst hj
      rw [List.getElem?_set_self hil] at e
      cases e
      exact ⟨_, hσ, hy⟩
    · rw [List.getElem?_set_ne hj] at e
      obtain ⟨v, e1, q⟩ := h.at_ j z e n
      refine ⟨v, e1, ?_⟩
      have far : isLst z = true → ∀ b, v = .ref b → b ≠ a := fun ly b eb z' => by
        subst eb z'
        exact h.sep i j _ z hj hi e hx ly (by rw [hσ, e1])
      cases z with
      | d x => exact Rep.mono t x v q
      | o zs => obtain ⟨b, us, q1, q2, q3, q4⟩ := q; exact ⟨b, us, q1, q2, by rw [upd_ne (far rfl b q1)]; exact q3, q4.mono t⟩
      | u zs => obtain ⟨b, us, q1, q2, q3, q4⟩ := q; exact ⟨b, us, q1, q2, by rw [upd_ne (far rfl b q1)]; exact q3, q4.mono t⟩
      | k zs => obtain ⟨b, us, q1, q2, q3, q4⟩ := q; exact ⟨b, us, q1, q2, by rw [upd_ne (far rfl b q1)]; exact q3, q4.mono t⟩
      | l zs => obtain ⟨b, us, q1, q3, q4⟩ := q; exact ⟨b, us, q1, by rw [upd_ne (far rfl b q1)]; exact q3, q4.mono t⟩
      | m kvs =>
        obtain ⟨b, us, q1, q3, q4⟩ := q
        exact ⟨b, us, q1, by rw [upd_ne (fun z => by rw [z, hH] at q3; cases q3; exact mT _ rfl)]; exact q3, q4.mono t⟩
      | b _ => exact q
      | a _ => exact q
      | i C fs =>
        obtain ⟨b, dx, us, q1, q3, q4⟩ := q
        exact ⟨b, dx, us, q1, by rw [upd_ne (fun z => by rw [z, hH] at q3; cases q3; exact mI _ _ _ rfl)]; exact q3, q4.mono t⟩
      | p _ _ => exact absurd (h.nop j _ e) (by simp [noP])
      | un => exact q
  · have back : ∀ {j : Nat} {z : Vl}, (env.set i y)[j]? = some z → ∃ y', env[j]? = some y' ∧ (isOwn z = true → isOwn y' = true) ∧ (isLst z = true → isLst y' = true) := fun {j z} e => by
      by_cases hj : i = j
      · subst hj
        rw [List.getElem?_set_self hil] at e
        cases e
        exact ⟨_, hi, fun _ => hx, fun _ => isOwn_lst hx⟩
      · rw [List.getElem?_set_ne hj] at e
        exact ⟨z, e, id, id⟩
    obtain ⟨y', e1, e2, _⟩ := back ey
    obtain ⟨z', e3, _, e4⟩ := back ez
    exact h.sep j k y' z' hjk e1 e3 (e2 oy) (e4 lz)
  · by_cases hj : i = j
    · subst hj
      rw [List.getElem?_set_self hil] at e
      cases e
      cases y with
      | p _ _ => cases hyo
      | _ => rfl
    · rw [List.getElem?_set_ne hj] at e
      exact h.nop j z e
theorem EnvOk.write {K : PySem.W.Frag} {H0 H : Hp} {σ : L2.St} {env : List Vl} (h : EnvOk K H0 H σ env) {i : Nat} {a : Addr} {xs ys : List D} {vs ws : List V} (hi : env[i]? = some (.o xs)) (hσ : σ[i]? = some (some (.ref a))) (hn : H0 a = none) (hH : H a = some (.lst vs)) (r : RepL K H ws ys) :
    EnvOk K H0 (upd H a (.lst ws)) σ (env.set i (.o ys)) :=
  h.writeG hi rfl hσ hH trivial (fun _ z => nomatch z) (fun _ _ _ z => nomatch z) rfl rfl ⟨a, ws, rfl, hn, upd_same, r.mono (upd_tup (fun _ z => by rw [hH] at z; cases z) fun _ _ z => by rw [hH] at z; cases z)⟩
section
variable {K : PySem.W.Frag} {X : Cx} {a b c e : Expr} {es : List Expr} {fa fb fc : List Vl → Option Vl} {fs : List Vl → Option (List Vl)} {ga gb : List Vl → Option Bool} {pos pos' : Pos} {x : PySem.Str} {p : Pos} {s : Stmt} {ss : List Stmt} {f g : List Vl → Option Out}

/-! ### for -/
def forM (gd : D → List Vl → Option (List Vl)) (body : List Vl → Option Out) : List D → List Vl → Option Out
  | [], env => some (.nx env)
  | d :: r, env => (gd d env).bind fun e2 => (body e2).bind fun o => match o with
    | .nx e3 => forM gd body r e3
    | .rt v => some (.rt v)
def sFor (src : List Vl → Option (List D)) (gd : D → List Vl → Option (List Vl)) (body : List Vl → Option Out) : List Vl → Option Out := fun env => (src env).bind fun ds => forM gd body ds env
theorem for_run {gd : D → List Vl → Option (List Vl)} {idx : List Nat} {body : List Vl → Option Out} {En : Ends} {J : It} {ds : List D} {Hs H1 : Hp} {σ : L2.St} {env : List Vl} {out : Out} (hG : Gives K J ds Hs H1) (s1 : Same Hs H1) (he : EnvOk K Hs H1 σ env) (hM : forM gd body ds env = some out) (q : EndS K En Hs H1 out) :
    ∃ W : Nat → Nat → L2.St → Hp → Prop, (∃ m, W 0 m σ H1) ∧ ∀ i m σ H, W i m σ H →
      (J.stop i H ∧ En.nx σ H) ∨ (J.go i H ∧ ∃ N : L2.St → Hp → Prop, (∀ σ' H', N σ' H' → ∃ m', m' < m ∧ W (i + 1) m' σ' H') ∧ ∀ x H', J.yld i H x H' → tG K gd idx x σ H' fun σ2 H2 => tS K body { En with nx := N, ct := N, bk := En.nx } σ2 H2) := by
  obtain ⟨G, Y, w, hGs, hY⟩ := hG.ex
  refine for_it w (fun i σ H => Same Hs H ∧ TupLe H1 H ∧ ∃ env, EnvOk K Hs H σ env ∧ forM gd body (ds.drop i) env = some out) ⟨s1, TupLe.refl, env, he, hM⟩ (fun i σ H _ p => hGs H p.1 p.2.1) ?_ ?_
  · rintro i x σ H H' hi ⟨sH, tH, env, he, hM⟩ y
    obtain ⟨sHH, d, hd, rd⟩ := hY i H x H' hi sH tH y
    have hdrop : ds.drop i = d :: ds.drop (i + 1) := by
      obtain ⟨hi', e⟩ := List.getElem?_eq_some_iff.mp hd
      rw [List.drop_eq_getElem_cons hi', e]
    rw [hdrop] at hM
    obtain ⟨e2, hgd, hM⟩ := Option.bind_eq_some_iff.mp hM
    obtain ⟨o, hb, hM⟩ := Option.bind_eq_some_iff.mp hM
    have t' : TupLe H1 H' := tH.trans (same_tup sHH)
    refine ⟨Hs, env, d, e2, he.same sHH, rd, hgd, fun σ2 he2 _ => ⟨Hs, e2, o, sH.trans sHH, he2, hb, ?_⟩⟩
    cases o with
    | nx e3 => exact fun σ3 H3 s3 t3 he3 => ⟨s3, t'.trans t3, e3, he3, hM⟩
    | rt r => cases hM; exact q.up t'
  · rintro σ H ⟨sH, tH, env, he, hM⟩
    rw [List.drop_length] at hM
    cases hM
    exact q σ H sH tH he
theorem s_for {tg iter : Expr} {body : List Stmt} {src : List Vl → Option (List D)} {gd : D → List Vl → Option (List Vl)} {idx : List Nat} (hp : PassesOwn (model X.prog X.w) X.A X.env X.xe) (hc : X.calm = true) (hi : PI X tg iter (tI K true src)) (hg : PG X tg (tG K gd idx)) (hb : PSs X body (tS K f))
    (hs : ∀ x, foldedSetIterable iter X.env x = pure x := by intro _; rfl) : PS X (.For tg iter body [] pos) (tS K (sFor src gd f)) := ps_wk (ps_for hp hc hi hg hb hs) fun D σ H h => by
  obtain ⟨H0, env, out, s0, he, hf, q⟩ := h
  obtain ⟨ds, h1, hM⟩ := Option.bind_eq_some_iff.mp hf
  refine ⟨H0, env, ds, s0, he, h1, fun J H1 o s1 ho hG => ?_⟩
  cases o with
  | none => exact for_run (hG H0 fun _ _ z => nomatch z) (s0.trans s1) (he.same s1) hM (q.up (same_tup s1))
  | some pv =>
    obtain ⟨p, vs⟩ := pv
    obtain ⟨hn, hq⟩ := ho p vs rfl
    have hn := hn rfl
    have sHs : Same H0 (upd H0 p (.lst vs)) := same_new (s0.free hn)
    refine for_run (hG (upd H0 p (.lst vs)) fun p' vs' z => by cases z; exact upd_same) (fun b o' e => ?_) ((EnvOk.base (Hs := upd H0 p (.lst vs)) he fun a ws h1 h2 => ?_).same s1) hM ?_
    · by_cases hb : b = p
      · rw [hb, upd_same] at e
        rw [hb, hq, e]
      · rw [upd_ne hb] at e
        exact s1 _ _ (s0 _ _ e)
    · rw [upd_ne (fun z => by rw [z, hn] at h2; cases h2)]
      exact h1
    · cases out with
      | nx e2 =>
        intro σ' H' s' t' he'
        exact q σ' H' (sHs.trans s') ((same_tup s1).trans t') (he'.base fun a ws h1 _ => sHs.free h1)
      | rt r =>
        intro v H' s' hv
        exact q v H' (sHs.trans s') (hv.back sHs)
/-- over an own list by its name; it is read alone from then on -/
def sForV (i : Nat) (gd : D → List Vl → Option (List Vl)) (body : List Vl → Option Out) : List Vl → Option Out := fun env => match env[i]? with
  | some (.o xs) => forM gd body xs (env.set i (.l xs))
  | _ => none
theorem s_forV {i : Nat} {tg : Expr} {body : List Stmt} {gd : D → List Vl → Option (List Vl)} {idx : List Nat} (hK : X.K = K) (hp : PassesOwn (model X.prog X.w) X.A X.env X.xe) (hc : X.calm = true) (hg : PG X tg (tG K gd idx)) (hb : PSs X body (tS K f)) (hN : X.N[i]? = some x := by rfl) (hv : Vis X.env.scope x := by first | exact Or.inl rfl | exact Or.inr (Or.inl rfl) | exact Or.inr (Or.inr rfl))
    (hd : (x == ("__debug__" : PySem.Str)) = false := by decide) (hcd : (x == ("__classdict__" : PySem.Str)) = false := by decide) (hs : ∀ y, foldedSetIterable (.Name x p) X.env y = pure y := by intro _; rfl) : PS X (.For tg (.Name x p) body [] pos) (tS K (sForV i gd f)) := by
  subst hK
  refine ps_wk (ps_for hp hc (pi_list (pe_var hN hv hd hcd)) hg hb hs) fun D σ H h => ?_
  obtain ⟨H0, env, out, s0, he, hf, q⟩ := h
  unfold sForV at hf
  split at hf
  · rename_i xs hx
    obtain ⟨v, e1, a, vs, rfl, hn, hq, r⟩ := he.at_ i _ hx (by intro z; cases z)
    refine ⟨_, e1, a, rfl, ⟨vs, .of hq⟩, ?_⟩
    have sHs : Same H0 (upd H0 a (.lst vs)) := same_new hn
    have hil : i < env.length := (List.getElem?_eq_some_iff.mp hx).1
    have he2 : EnvOk X.K (upd H0 a (.lst vs)) H σ (env.set i (.l xs)) := by
      refine ⟨by rw [List.length_set]; exact he.len, fun j y e n => ?_, fun j k y z hjk ey ez oy lz => ?_, fun j y e => ?_⟩
      · by_cases hj : i = j
        · subst hj
          rw [List.getElem?_set_self hil] at e
          cases e
          exact ⟨_, e1, a, vs, rfl, hq, r⟩
        · rw [List.getElem?_set_ne hj] at e
          obtain ⟨v, e2, q2⟩ := he.at_ j y e n
          refine ⟨v, e2, ?_⟩
          cases y with
          | o zs =>
            refine q2.base (fun b ws h1 _ _ eb => ?_) (fun _ _ _ _ z => nomatch z)
            rw [upd_ne (fun z => ?_)]
            · exact h1
            · subst eb z
              exact he.sep i j _ _ hj hx e rfl rfl (by rw [e1, e2])
          | u zs =>
            refine q2.base (fun b ws h1 _ _ eb => ?_) (fun _ _ _ _ z => nomatch z)
            rw [upd_ne (fun z => ?_)]
            · exact h1
            · subst eb z
              exact he.sep i j _ _ hj hx e rfl rfl (by rw [e1, e2])
          | d _ => exact q2
          | l _ => exact q2
          | m _ => exact q2
          | k _ =>
            refine q2.base (fun b ws h1 _ _ eb => ?_) (fun _ _ _ _ z => nomatch z)
            rw [upd_ne (fun z => ?_)]
            · exact h1
            · subst eb z
              exact he.sep i j _ _ hj hx e rfl rfl (by rw [e1, e2])
          | b _ => exact q2
          | a _ => exact q2
          | i _ _ => exact q2
          | p _ _ => exact absurd (he.nop j _ e) (by simp [noP])
          | un => exact q2
      · have back : ∀ {j : Nat} {y : Vl}, (env.set i (.l xs))[j]? = some y → ∃ y', env[j]? = some y' ∧ (isOwn y = true → isOwn y' = true) ∧ isLst y' = isLst y := fun {j y} e => by
          by_cases hj : i = j
          · subst hj
            rw [List.getElem?_set_self hil] at e
            cases e
            exact ⟨_, hx, fun _ => rfl, rfl⟩
          · rw [List.getElem?_set_ne hj] at e
            exact ⟨y, e, id, rfl⟩
        obtain ⟨y', g1, g2, _⟩ := back ey
        obtain ⟨z', g3, _, g4⟩ := back ez
        exact he.sep j k y' z' hjk g1 g3 (g2 oy) (by rw [g4]; exact lz)
      · by_cases hj : i = j
        · subst hj
          rw [List.getElem?_set_self hil] at e
          cases e
          rfl
        · rw [List.getElem?_set_ne hj] at e
          exact he.nop j y e
    refine for_run (gives_list upd_same r) (fun b o' e => ?_) he2 hf ?_
    · by_cases hb : b = a
      · rw [hb, upd_same] at e
        rw [hb, hq, e]
      · rw [upd_ne hb] at e
        exact s0 _ _ e
    · cases out with
      | nx e2 =>
        intro σ' H' s' t' he'
        exact q σ' H' (sHs.trans s') t' (he'.base fun a ws h1 _ => sHs.free h1)
      | rt r =>
        intro v H' s' hv
        exact q v H' (sHs.trans s') (hv.back sHs)
  · cases hf

/-! ### own lists written -/
theorem same_upd0 {H0 H : Hp} {a : Addr} {o : HO} (s : Same H0 H) (hn : H0 a = none) : Same H0 (upd H a o) := fun b o' e => by
  rw [upd_ne (ne_of_none e hn)]
  exact s _ _ e
theorem tup_upd {H : Hp} {a : Addr} {vs ws : List V} (h : H a = some (.lst vs)) : TupLe H (upd H a (.lst ws)) := upd_tup (fun _ z => by rw [h] at z; cases z) fun _ _ z => by rw [h] at z; cases z
def sExt (i : Nat) (f : List Vl → Option (List Vl)) : List Vl → Option Out := fun env => match env[i]? with
  | some (.o xs) => (f env).bind fun as => match as with
    | [a] => (lstOf a).bind fun ys => if xs.length + ys.length ≤ 1000 then some (.nx (env.set i (.o (xs ++ ys)))) else none
    | _ => none
  | _ => none
variable {o : Expr} {apos : Pos} {i : Nat}
theorem s_ext (hK : X.K = K) (ha : PA X [a] (tA K fs)) (hN : X.N[i]? = some x := by rfl) (hv : Vis X.env.scope x := by first | exact Or.inl rfl | exact Or.inr (Or.inl rfl) | exact Or.inr (Or.inr rfl))
    (hd : (x == ("__debug__" : PySem.Str)) = false := by decide) (hcd : (x == ("__classdict__" : PySem.Str)) = false := by decide)
    (hbase : attributeBase (.Name x p) "extend" X.env (eval (.Name x p) X.env) = eval (.Name x p) X.env := by rfl)
    (hfew : ((backTo pos (starEach [a] X.env)).all (fun x => !x.1) && (backToKw pos (keywordEach [] X.env)).all (fun x => x.1.isSome)
      && decide (([a] : List Expr).length + ([] : List Keyword).length + (if ([] : List Keyword).isEmpty then 0 else 1) < 30)) = true := by rfl)
    (hline : (apos.endLine == pos.line) = true := by rfl) (hs : starEach [a] X.env = (false, eval a X.env) :: starEach [] X.env := by rfl) (hpl : (backTo pos (starEach [] X.env)).any (·.1) = false := by rfl)
    (hsw : swapsWith (.Call (.Attribute (.Name x p) "extend" apos) [a] [] pos) none pos'.line X.env = pure false := by rfl) :
    PS X (.Expr (.Call (.Attribute (.Name x p) "extend" apos) [a] [] pos) pos') (tS K (sExt i fs)) := by
  subst hK
  refine ps_wk (ps_expr (pe_bm F.plainAttrs_list F.slot_list_extend F.type_list_extend mt_extend (pe_var hN hv hd hcd) ha hbase hfew hline hs hpl) hsw) fun D σ H h => ?_
  obtain ⟨H0, env, out, s0, he, hf, q⟩ := h
  unfold sExt at hf
  split at hf
  · rename_i xs hx
    obtain ⟨as, h1, hf⟩ := Option.bind_eq_some_iff.mp hf
    obtain ⟨v, e1, a', vs, rfl, hn, hq, r⟩ := he.at_ i _ hx (by intro z; cases z)
    refine ⟨_, e1, .inl ⟨rfl, vs, .of hq⟩, H0, env, as, s0, he, h1, fun us H1 s1 hu => ?_⟩
    split at hf
    · cases hu with
      | cons h2 t =>
        cases t
        obtain ⟨ys, e2, hf⟩ := Option.bind_eq_some_iff.mp hf
        split at hf
        · rename_i hl
          cases hf
          obtain ⟨b, ws, rfl, hb, rb⟩ := h2.lst e2
          have hq1 := s1 _ _ hq
          have r1 := r.mono (same_tup s1)
          refine ⟨a', b, vs, ws, rfl, rfl, hq1, hb, by rw [r.length, rb.length, sizeLine_eq]; omega, ?_⟩
          exact q σ _ (same_upd0 (s0.trans s1) hn) ((same_tup s1).trans (tup_upd hq1)) ((he.same s1).write hx e1 hn hq1 (r1.append rb))
        · cases hf
    · cases hf
  · cases hf
def sApp (i : Nat) (f : List Vl → Option (List Vl)) : List Vl → Option Out := fun env => match env[i]? with
  | some (.o xs) => (f env).bind fun as => match as with
    | [a] => (datOf a).bind fun y => if xs.length ≤ 1000 then some (.nx (env.set i (.o (xs ++ [y])))) else none
    | _ => none
  | _ => none
theorem s_app (hK : X.K = K) (ha : PA X [a] (tA K fs)) (hN : X.N[i]? = some x := by rfl) (hv : Vis X.env.scope x := by first | exact Or.inl rfl | exact Or.inr (Or.inl rfl) | exact Or.inr (Or.inr rfl))
    (hd : (x == ("__debug__" : PySem.Str)) = false := by decide) (hcd : (x == ("__classdict__" : PySem.Str)) = false := by decide)
    (hbase : attributeBase (.Name x p) "append" X.env (eval (.Name x p) X.env) = eval (.Name x p) X.env := by rfl)
    (hfew : ((backTo pos (starEach [a] X.env)).all (fun x => !x.1) && (backToKw pos (keywordEach [] X.env)).all (fun x => x.1.isSome)
      && decide (([a] : List Expr).length + ([] : List Keyword).length + (if ([] : List Keyword).isEmpty then 0 else 1) < 30)) = true := by rfl)
    (hline : (apos.endLine == pos.line) = true := by rfl) (hs : starEach [a] X.env = (false, eval a X.env) :: starEach [] X.env := by rfl) (hpl : (backTo pos (starEach [] X.env)).any (·.1) = false := by rfl)
    (hsw : swapsWith (.Call (.Attribute (.Name x p) "append" apos) [a] [] pos) none pos'.line X.env = pure false := by rfl) :
    PS X (.Expr (.Call (.Attribute (.Name x p) "append" apos) [a] [] pos) pos') (tS K (sApp i fs)) := by
  subst hK
  refine ps_wk (ps_expr (pe_bm F.plainAttrs_list F.slot_list_append F.type_list_append mt_append (pe_var hN hv hd hcd) ha hbase hfew hline hs hpl) hsw) fun D σ H h => ?_
  obtain ⟨H0, env, out, s0, he, hf, q⟩ := h
  unfold sApp at hf
  split at hf
  · rename_i xs hx
    obtain ⟨as, h1, hf⟩ := Option.bind_eq_some_iff.mp hf
    obtain ⟨v, e1, a', vs, rfl, hn, hq, r⟩ := he.at_ i _ hx (by intro z; cases z)
    refine ⟨_, e1, .inl ⟨rfl, vs, .of hq⟩, H0, env, as, s0, he, h1, fun us H1 s1 hu => ?_⟩
    split at hf
    · cases hu with
      | @cons w _ _ _ h2 t =>
        cases t
        obtain ⟨y, e2, hf⟩ := Option.bind_eq_some_iff.mp hf
        split at hf
        · rename_i hl
          cases hf
          have hq1 := s1 _ _ hq
          have r1 := r.mono (same_tup s1)
          refine ⟨a', vs, w, rfl, rfl, hq1, by rw [r.length, sizeLine_eq]; omega, ?_⟩
          exact q σ _ (same_upd0 (s0.trans s1) hn) ((same_tup s1).trans (tup_upd hq1)) ((he.same s1).write hx e1 hn hq1 (r1.snoc (h2.dat e2)))
        · cases hf
    · cases hf
  · cases hf
/-- name[j] = e -/
def sPut (i : Nat) (fe fi : List Vl → Option Vl) : List Vl → Option Out := fun env => (fe env).bind fun v => (datOf v).bind fun y => match env[i]? with
  | some (.o xs) => (fi env).bind fun b => (intOf b).bind fun k => (ixN xs.length k).map fun j => .nx (env.set i (.o (xs.set j y)))
  | _ => none
theorem s_put {tpos : Pos} (hK : X.K = K) (he' : PE X e (tD K fa)) (hb : PE X b (tD K fb)) (hN : X.N[i]? = some x := by rfl) (hv : Vis X.env.scope x := by first | exact Or.inl rfl | exact Or.inr (Or.inl rfl) | exact Or.inr (Or.inr rfl))
    (hd : (x == ("__debug__" : PySem.Str)) = false := by decide) (hcd : (x == ("__classdict__" : PySem.Str)) = false := by decide)
    (ha : ∀ v, assign (.Subscript (.Name x p) b tpos) X.env v = (do
      let ov ← holding [v] (eval (.Name x p) X.env)
      let iv ← holding [v, ov] (eval b X.env)
      standAt tpos
      holding [v, ov, iv] (setItem ov iv v)
      release [v, ov, iv] []) := by intro _; rfl)
    (hs : swapsWithSole [.Subscript (.Name x p) b tpos] e pos.line X.env = pure false := by rfl) (hw : swappedStores [.Subscript (.Name x p) b tpos] e X.env = pure none := by rfl)
    (h1 : (assignEach [.Subscript (.Name x p) b tpos] X.env).map (·.2) = [assign (.Subscript (.Name x p) b tpos) X.env] := by rfl) :
    PS X (.Assign [.Subscript (.Name x p) b tpos] e pos) (tS K (sPut i fa fb)) := by
  subst hK
  refine ps_wk (ps_asg he' (pg_sub (pe_var hN hv hd hcd) hb set_list ha) hs hw h1) fun D σ H h => ?_
  obtain ⟨H0, env, out, s0, he, hf, q⟩ := h
  obtain ⟨v, h2, hf⟩ := Option.bind_eq_some_iff.mp hf
  obtain ⟨y, h3, hf⟩ := Option.bind_eq_some_iff.mp hf
  split at hf
  · rename_i xs hx
    obtain ⟨bv, h4, hf⟩ := Option.bind_eq_some_iff.mp hf
    obtain ⟨k, h5, hf⟩ := Option.bind_eq_some_iff.mp hf
    obtain ⟨j, h6, hf⟩ := Option.map_eq_some_iff.mp hf
    subst hf
    refine ⟨H0, env, v, s0, he, h2, fun w H1 s1 hw1 => ?_⟩
    obtain ⟨w2, e1, a', vs, rfl, hn, hq, r⟩ := (he.same s1).at_ i _ hx (by intro z; cases z)
    refine ⟨_, e1, H0, env, bv, s0.trans s1, he.same s1, h4, fun u H2 s2 hu => ?_⟩
    have hq2 := s2 _ _ hq
    have r2 := r.mono (same_tup s2)
    refine ⟨a', vs, k, j, rfl, hu.int h5, hq2, by rw [r.length]; exact h6, ?_⟩
    have s12 := s1.trans s2
    exact q σ _ (same_upd0 (s0.trans s12) hn) ((same_tup s12).trans (tup_upd hq2)) ((he.same s12).write hx e1 hn hq2 (r2.set j (Rep.mono (same_tup s2) y w (hw1.dat h3))))
  · cases hf
/-- name[j] += e, ints -/
def sInc (i : Nat) (fi fe : List Vl → Option Vl) : List Vl → Option Out := fun env => match env[i]? with
  | some (.o xs) => (fi env).bind fun b => (intOf b).bind fun k => if 0 ≤ k then (xs[k.toNat]?).bind fun d => (intOf (.d d)).bind fun m => (fe env).bind fun v => (intOf v).bind fun n => some (.nx (env.set i (.o (xs.set k.toNat (.int (m + n)))))) else none
  | _ => none
theorem s_inc {tpos : Pos} (hK : X.K = K) (hb : PE X b (tD K fb)) (he' : PE X e (tD K fa)) (hN : X.N[i]? = some x := by rfl) (hv : Vis X.env.scope x := by first | exact Or.inl rfl | exact Or.inr (Or.inl rfl) | exact Or.inr (Or.inr rfl))
    (hd : (x == ("__debug__" : PySem.Str)) = false := by decide) (hcd : (x == ("__classdict__" : PySem.Str)) = false := by decide)
    (ha : ∀ ov iv new, augStore b ov iv new = (do holding [new, ov, iv] (setItem ov iv new); release [new, ov, iv] []; pure .next) := by intros; rfl) :
    PS X (.AugAssign (.Subscript (.Name x p) b tpos) .Add e pos) (tS K (sInc i fb fa)) := by
  subst hK
  refine ps_wk (ps_augS (pe_var hN hv hd hcd) hb get_list he' ip_add set_list ha) fun D σ H h => ?_
  obtain ⟨H0, env, out, s0, he, hf, q⟩ := h
  unfold sInc at hf
  split at hf
  · rename_i xs hx
    obtain ⟨bv, h4, hf⟩ := Option.bind_eq_some_iff.mp hf
    obtain ⟨k, h5, hf⟩ := Option.bind_eq_some_iff.mp hf
    split at hf
    · rename_i hk
      obtain ⟨d, h6, hf⟩ := Option.bind_eq_some_iff.mp hf
      obtain ⟨m, h7, hf⟩ := Option.bind_eq_some_iff.mp hf
      obtain ⟨v, h8, hf⟩ := Option.bind_eq_some_iff.mp hf
      obtain ⟨n, h9, hf⟩ := Option.bind_eq_some_iff.mp hf
      cases hf
      obtain ⟨w2, e1, a', vs, rfl, hn, hq, r⟩ := he.at_ i _ hx (by intro z; cases z)
      refine ⟨_, e1, H0, env, bv, s0, he, h4, fun u H1 s1 hu => ?_⟩
      obtain ⟨w3, g1, g2⟩ := r.get h6
      have hq1 := s1 _ _ hq
      refine ⟨a', vs, k.toNat, w3, rfl, ?_, hq1, g1, H0, env, v, s0.trans s1, he.same s1, h8, fun u2 H2 s2 hu2 => ?_⟩
      · rw [hu.int h5, Int.toNat_of_nonneg hk]
      have s12 := s1.trans s2
      have hq2 := s12 _ _ hq
      have r2 := r.mono (same_tup s12)
      have ew : w3 = .int m := (show RepX X.K Any H0 H w3 (.d d) from g2).int h7
      have hlt : k.toNat < vs.length := (List.getElem?_eq_some_iff.mp g1).1
      refine ⟨m, n, ew, hu2.int h9, a', vs, k, k.toNat, rfl, hu.int h5, hq2, ?_, ?_⟩
      · unfold ixN
        rw [if_pos hk, if_pos (by omega)]
      · exact q σ _ (same_upd0 (s0.trans s12) hn) ((same_tup s12).trans (tup_upd hq2)) ((he.same s12).write hx e1 hn hq2 (r2.set _ (.int _)))
    · cases hf
  · cases hf

/-! ### defs and calls -/
def argOk : Vl → Bool
  | .d _ => true
  | .l _ => true
  | .i _ _ => true
  | .a _ => true
  | _ => false
def toArg : Vl → Vl
  | .o xs => .l xs
  | .u xs => .l xs
  | x => x
/-- the promise of a def that reads data and gives data (or a new list) -/
def spD (K : PySem.W.Frag) (n : Nat) (F : List Vl → Option Rt) : Sp := fun vs H Q _ => vs.length = n ∧ ∃ as r, RepXs K Any H H vs as ∧ as.all argOk = true ∧ F as = some r ∧ ∀ v H', Same H H' → RepX K (New H) H H' v r.v → Q v H'
def fnD (n m : Nat) (body : List Vl → Option Out) : List Vl → Option Rt := fun as => if as.length = n then (body (as ++ List.replicate m .un)).map fun o => match o with
  | .rt r => r
  | .nx _ => .d .non else none
theorem RepXs.length {N : Addr → Prop} {H0 H : Hp} {vs : List V} {xs : List Vl} (h : RepXs K N H0 H vs xs) : vs.length = xs.length := by
  induction h with
  | nil => rfl
  | cons _ _ ih => rw [List.length_cons, List.length_cons, ih]
theorem RepXs.at_ {N : Addr → Prop} {H0 H : Hp} {vs : List V} {xs : List Vl} (h : RepXs K N H0 H vs xs) : ∀ {i : Nat} {x : Vl}, xs[i]? = some x → ∃ v, vs[i]? = some v ∧ RepX K N H0 H v x := by
  induction h with
  | nil => intro i x e; simp at e
  | cons h _ ih =>
    intro i x e
    cases i with
    | zero =>
      simp only [List.getElem?_cons_zero, Option.some.injEq] at e
      subst e
      exact ⟨_, rfl, h⟩
    | succ i =>
      obtain ⟨v, e1, e2⟩ := ih (i := i) (by simpa using e)
      exact ⟨v, by simpa using e1, e2⟩
theorem argOk_lst {K : PySem.W.Frag} {H0 H : Hp} {N N' : Addr → Prop} {H0' : Hp} {v : V} {x : Vl} (ok : argOk x = true) (h : RepX K N H0 H v x) : RepX K N' H0' H v x := by
  cases x with
  | d _ => exact h
  | l _ => exact h
  | o _ => cases ok
  | u _ => cases ok
  | m _ => cases ok
  | k _ => cases ok
  | b _ => cases ok
  | a _ => exact h
  | i _ _ => exact h
  | p _ _ => cases ok
  | un => cases ok
theorem argOk_own {x : Vl} (ok : argOk x = true) : isOwn x = false := by
  cases x with
  | d _ => rfl
  | l _ => rfl
  | o _ => cases ok
  | u _ => cases ok
  | m _ => cases ok
  | k _ => cases ok
  | b _ => cases ok
  | a _ => rfl
  | i _ _ => rfl
  | p _ _ => cases ok
  | un => cases ok
theorem env_start {H : Hp} {N : List PySem.Str} {vs : List V} {as : List Vl} {m : Nat} (h : RepXs K Any H H vs as) (ok : as.all argOk = true) (hm : N.length = as.length + m) : EnvOk K H H (L2.start N vs) (as ++ List.replicate m .un) := by
  have hl := RepXs.length h
  have own : ∀ (j : Nat) (y : Vl), (as ++ List.replicate m Vl.un)[j]? = some y → isOwn y = false := fun j y e => by
    by_cases hj : j < as.length
    · rw [List.getElem?_append_left hj] at e
      exact argOk_own (List.all_eq_true.mp ok y (List.mem_of_getElem? e))
    · rw [List.getElem?_append_right (by omega)] at e
      rw [(List.mem_replicate.mp (List.mem_of_getElem? e)).2] <;> rfl
  refine ⟨?_, fun j y e n => ?_, fun j k y z _ ey _ oy _ => ?_, fun j y e => ?_⟩
  · unfold L2.start
    rw [List.length_append, List.length_append, List.length_map, List.length_replicate, List.length_replicate, hl]
    omega
  · by_cases hj : j < as.length
    · rw [List.getElem?_append_left hj] at e
      obtain ⟨v, e1, e2⟩ := RepXs.at_ h e
      refine ⟨v, ?_, argOk_lst (List.all_eq_true.mp ok y (List.mem_of_getElem? e)) e2⟩
      unfold L2.start
      rw [List.getElem?_append_left (by rw [List.length_map]; omega), List.getElem?_map, e1]
      rfl
    · rw [List.getElem?_append_right (by omega)] at e
      exact absurd (List.mem_replicate.mp (List.mem_of_getElem? e)).2 n
  · rw [own j y ey] at oy
    cases oy
  · by_cases hj : j < as.length
    · rw [List.getElem?_append_left hj] at e
      have := List.all_eq_true.mp ok y (List.mem_of_getElem? e)
      cases y with
      | p _ _ => cases this
      | _ => rfl
    · rw [List.getElem?_append_right (by omega)] at e
      rw [(List.mem_replicate.mp (List.mem_of_getElem? e)).2] <;> rfl
/-- a def by the reading of its body -/
theorem def_ok {P : Program} {w : World} {mg : PySem.Str → Option Value} {base : Heap} {nm qual : PySem.Str} {params : Arguments} {bd : List Stmt} {scope : Scope} {ft : Addr} {fd : FuncData} {N ps : List PySem.Str} {k m : Nat}
    (FD : FunD K nm qual params bd scope [] [] ft fd) (S : FnScope N ps scope) (hm : N.length = ps.length + m)
    (hbody : ∀ (cdv : Value) (A : Around) (outer : List Env) (s : Shared) (H : Hp) (E : XK), Room k (A.deeper (envOfC qual scope s.heap.objs.size ft cdv)) → PSs (cxOf CX0 P w K mg base N qual scope ft cdv A outer s H E).nox bd (tS K f)) :
    FnOk P w K mg base CX0 (k + 1) ft fd ps (spD K ps.length (fnD ps.length m f)) := by
  refine FD.ok S (fun vs H Q E h => h.1) fun cdv A outer s H vs Q E hr h => ⟨tS K f, PSs.nox (hbody cdv A outer s H E hr), ?_⟩
  obtain ⟨hl, as, r, hv, ok, hF, q⟩ := h
  have hla := RepXs.length hv
  unfold fnD at hF
  split at hF
  · rename_i hn
    obtain ⟨o, h1, hF⟩ := Option.map_eq_some_iff.mp hF
    refine ⟨H, _, o, Same.refl H, env_start hv ok (by omega), h1, ?_⟩
    cases o with
    | nx e2 =>
      subst hF
      exact fun σ' H' s' _ _ => q .non H' s' Rep.non
    | rt r' =>
      subst hF
      exact fun v H' s' hv' => q v H' s' hv'
  · cases hF
/-- a def that may be called by its name -/
structure Fn (P : Program) (w : World) (K : PySem.W.Frag) (mg : PySem.Str → Option Value) (base : Heap) (k : Nat) (x : PySem.Str) (n : Nat) (F : List Vl → Option Rt) : Prop where
  ex : ∃ (ft : Addr) (fd : FuncData) (ps : List PySem.Str), FnOk P w K mg base CX0 k ft fd ps (spD K n F) ∧ mg x = some (.ref ft) ∧ PySem.W.keepIn K (.ref ft) = true ∧ Binds K fd ps []
theorem Fn.mono {P : Program} {w : World} {mg : PySem.Str → Option Value} {base : Heap} {k j n : Nat} {F : List Vl → Option Rt} (h : Fn P w K mg base k x n F) (hk : k ≤ j) : Fn P w K mg base j x n F := by
  obtain ⟨ft, fd, ps, h1, h2, h3, h4⟩ := h.ex
  exact ⟨ft, fd, ps, h1.mono hk, h2, h3, h4⟩
def eCall (n : Nat) (F : List Vl → Option Rt) (fs : List Vl → Option (List Vl)) : List Vl → Option Vl := fun env => (fs env).bind fun vals => if vals.length = n ∧ (vals.map toArg).all argOk = true then (F (vals.map toArg)).map Rt.v else none
theorem RepXs.args {N : Addr → Prop} {H0 H : Hp} {vs : List V} {xs : List Vl} (h : RepXs K N H0 H vs xs) : (xs.map toArg).all argOk = true → RepXs K Any H H vs (xs.map toArg) := by
  induction h with
  | nil => exact fun _ => .nil
  | @cons v _ x _ h t ih =>
    intro ok
    rw [List.map_cons, List.all_cons, Bool.and_eq_true] at ok
    refine .cons ?_ (ih ok.2)
    cases x with
    | d _ => exact h
    | l _ => exact h
    | o zs => obtain ⟨a, us, q1, q2, q3, q4⟩ := h; exact ⟨a, us, q1, q3, q4⟩
    | u zs => obtain ⟨a, us, q1, q2, q3, q4⟩ := h; exact ⟨a, us, q1, q3, q4⟩
    | m _ => cases ok.1
    | k _ => cases ok.1
    | b _ => cases ok.1
    | a _ => exact h
    | i _ _ => exact h
    | p _ _ => cases ok.1
    | un => cases ok.1
theorem call_wk {n : Nat} {F : List Vl → Option Rt} (σ : L2.St) (H : Hp) (Q : VK) (h : tD K (eCall n F fs) σ H Q) : tCall (spD K n F) [] E0 (tA K fs) σ H Q := by
  obtain ⟨H0, env, val, s0, he, hf, q⟩ := h
  obtain ⟨as, h1, hf⟩ := Option.bind_eq_some_iff.mp hf
  split at hf
  · rename_i hl
    obtain ⟨r, h2, hf⟩ := Option.map_eq_some_iff.mp hf
    subst hf
    refine ⟨H0, env, as, s0, he, h1, fun vs H1 s1 hv => ⟨?_, as.map toArg, r, ?_, hl.2, h2, fun v H' s' hv' => q v H' (s1.trans s') ?_⟩⟩
    · rw [List.append_nil, RepXs.length hv]; exact hl.1
    · rw [List.append_nil]; exact RepXs.args hv hl.2
    · cases r with
      | d _ => exact hv'
      | i _ _ => exact hv'
      | o zs =>
        obtain ⟨a, us, q1, q2, q3, q4⟩ := hv'
        exact ⟨a, us, q1, s1.free q2, q3, q4⟩
      | p xs ys =>
        obtain ⟨u, a, b, vs, ws, q, q0, n1, q1, r1, n2, q2, r2⟩ := hv'
        exact ⟨u, a, b, vs, ws, q, q0, (s0.trans s1).free n1, q1, r1, (s0.trans s1).free n2, q2, r2⟩
  · cases hf
theorem d_call {n k j : Nat} {F : List Vl → Option Rt} (cl : Fn X.prog X.w X.K X.mg X.base k x n F) (hK : X.K = K) (hr : Room j X.A) (hk : k ≤ j) (hg : Gl X x) (ha : PA X (a :: es) (tA K fs))
    (hdb : (x == ("__debug__" : PySem.Str)) = false := by decide) (he : starEach (a :: es) X.env = (false, eval a X.env) :: starEach es X.env := by rfl) (hpl : (backTo pos (starEach es X.env)).any (·.1) = false := by rfl) :
    PE X (.Call (.Name x p) (a :: es) [] pos) (tD K (eCall n F fs)) := by
  subst hK
  obtain ⟨ft, fd, ps, h1, h2, h3, h4⟩ := cl.ex
  exact pe_wk (pe_call h1 (hr.mono hk) hg h2 h3 h4 .nil pass0 ha hdb he hpl) call_wk
theorem d_call0 {k j : Nat} {F : List Vl → Option Rt} (cl : Fn X.prog X.w X.K X.mg X.base k x 0 F) (hK : X.K = K) (hr : Room j X.A) (hk : k ≤ j) (hg : Gl X x)
    (hdb : (x == ("__debug__" : PySem.Str)) = false := by decide) : PE X (.Call (.Name x p) [] [] pos) (tD K (eCall 0 F aNil)) := by
  subst hK
  obtain ⟨ft, fd, ps, h1, h2, h3, h4⟩ := cl.ex
  refine pe_wk (pe_call0 h1 (hr.mono hk) hg h2 h3 h4 .nil pass0 hdb) fun σ H Q h => ?_
  obtain ⟨H0, env, vals, s0, he, hf, q⟩ := call_wk σ H Q h
  cases hf
  exact q [] H (Same.refl H) .nil
end
end K98

/-! ## DL7 -/
/-! Instances; dicts by ints; pairs of lists. -/
namespace K98
open PySem PySem.Spec PyProof.Rows L2
section
variable {K : PySem.W.Frag} {X : Cx} {a b c e o : Expr} {es : List Expr} {fa fb fc : List Vl → Option Vl} {fs : List Vl → Option (List Vl)} {ga gb : List Vl → Option Bool} {pos pos' apos : Pos} {x m : PySem.Str} {p : Pos} {s : Stmt} {ss : List Stmt} {f g : List Vl → Option Out} {i : Nat}

/-! ### instances -/
def gFld (C : Addr) (n : PySem.Str) : Vl → Option Vl := fun a => match a with
  | .i C' fs => if C' = C then (fs.lookup n).map .d else none
  | _ => none
def eFld (C : Addr) (n : PySem.Str) (f : List Vl → Option Vl) : List Vl → Option Vl := e1 (gFld C n) f
theorem FldR.get {H : Hp} {gs : List (PySem.Str × V)} {fs : List (PySem.Str × D)} (h : FldR K H gs fs) {n : PySem.Str} {d : D} (e : fs.lookup n = some d) : ∃ v, gs.lookup n = some v ∧ Rep K H v d := by
  induction h with
  | nil => cases e
  | @cons k v d' r s h1 _ ih =>
    rw [List.lookup_cons] at e ⊢
    cases hk : (n == k) with
    | true =>
      rw [hk] at e
      cases e
      exact ⟨v, rfl, h1⟩
    | false =>
      rw [hk] at e
      exact ih e
theorem FldR.none {H : Hp} {gs : List (PySem.Str × V)} {fs : List (PySem.Str × D)} (h : FldR K H gs fs) {n : PySem.Str} (e : fs.lookup n = none) : gs.lookup n = none := by
  induction h with
  | nil => rfl
  | @cons k v d' r s h1 _ ih =>
    rw [List.lookup_cons] at e ⊢
    cases hk : (n == k) with
    | true => rw [hk] at e; cases e
    | false => rw [hk] at e; exact ih e
theorem d_fld {C : Addr} (hK : X.K = K) (hc : Cls K C) (hn : NoAttr K C x) (ha : PE X a (tD K fa)) (hb : attributeBase a x X.env (eval a X.env) = eval a X.env := by rfl) : PE X (.Attribute a x pos) (tD K (eFld C x fa)) := by
  subst hK
  refine pe_wk (pe_fld ha hb) (den1 fun H0 H v w val Q s0 hv hg q => ?_)
  unfold gFld at hg
  split at hg
  · rename_i C' fs
    split at hg
    · rename_i hC
      subst hC
      obtain ⟨d, h1, hg⟩ := Option.map_eq_some_iff.mp hg
      subst hg
      obtain ⟨a, dx, gs, rfl, q1, q2⟩ := hv
      obtain ⟨u, e1, e2⟩ := q2.get h1
      exact ⟨a, _, dx, gs, u, rfl, q1, hc, hn, e1, q u H (Same.refl H) e2⟩
    · cases hg
  · cases hg
/-- a method without arguments -/
structure Mt (P : Program) (w : World) (K : PySem.W.Frag) (mg : PySem.Str → Option Value) (base : Heap) (k : Nat) (C : Addr) (m : PySem.Str) (F : List Vl → Option Rt) : Prop where
  ex : ∃ (ft : Addr) (fd : FuncData) (ps : List PySem.Str), Cls K C ∧ Meth K C m ft ∧ FnOk P w K mg base CX0 k ft fd ps (spD K 1 F) ∧ Binds K fd ps []
def gMth (C : Addr) (m : PySem.Str) (F : List Vl → Option Rt) : Vl → Option Vl := fun a => match a with
  | .i C' fs => if C' = C ∧ (fs.lookup m).isNone = true then (F [.i C' fs]).map Rt.v else none
  | _ => none
def eMth (C : Addr) (m : PySem.Str) (F : List Vl → Option Rt) (f : List Vl → Option Vl) : List Vl → Option Vl := e1 (gMth C m F) f
theorem Rt.up {H0 H H1 H' : Hp} {v : V} {r : Rt} (s0 : Same H0 H) (s1 : Same H H1) (h : RepX K (New H1) H1 H' v r.v) : RepX K (New H) H0 H' v r.v := by
  cases r with
  | d _ => exact h
  | i _ _ => exact h
  | o zs =>
    obtain ⟨a, us, q1, q2, q3, q4⟩ := h
    exact ⟨a, us, q1, s1.free q2, q3, q4⟩
  | p xs ys =>
    obtain ⟨u, a, b, vs, ws, q, q0, n1, q1, r1, n2, q2, r2⟩ := h
    exact ⟨u, a, b, vs, ws, q, q0, (s0.trans s1).free n1, q1, r1, (s0.trans s1).free n2, q2, r2⟩
theorem d_mth {C : Addr} {k j : Nat} {F : List Vl → Option Rt} {pl : Sem Bool} (cl : Mt X.prog X.w X.K X.mg X.base k C m F) (hK : X.K = K) (hr : Room j X.A) (hk : k ≤ j) (ha : PE X a (tD K fa))
    (ht : eval (.Call (.Attribute a m apos) [] [] pos) X.env = (do
      let ov ← eval a X.env
      standAt apos.atName
      let (f, first) ← holding [ov] (getMethod ov m pl)
      callWith pos f first (backTo pos (starEach [] X.env)) (backToKw pos (keywordEach [] X.env))) := by rfl) : PE X (.Call (.Attribute a m apos) [] [] pos) (tD K (eMth C m F fa)) := by
  subst hK
  obtain ⟨ft, fd, ps, h1, h2, h3, h4⟩ := cl.ex
  refine pe_wk (pe_meth0 (pl := pl) ha h1 h2 h3 (hr.mono hk) h4 .nil pass0 ht) fun σ H Q h => ?_
  obtain ⟨H0, env, val, s0, he, hf, q⟩ := h
  obtain ⟨x, hx, hg⟩ := Option.bind_eq_some_iff.mp hf
  clear hf
  refine ⟨H0, env, x, s0, he, hx, fun v H1 s1 hv => ?_⟩
  unfold gMth at hg
  split at hg
  · rename_i C' fs
    split at hg
    · rename_i hC
      obtain ⟨rfl, hl⟩ := hC
      obtain ⟨r, h5, hg⟩ := Option.map_eq_some_iff.mp hg
      subst hg
      have hv' := hv
      obtain ⟨a, dx, gs, rfl, q1, q2⟩ := hv
      refine ⟨a, dx, gs, rfl, q1, q2.none (Option.isNone_iff_eq_none.mp hl), rfl, [.i C' fs], r, .cons hv' .nil, rfl, h5, fun u H' s' hu => q u H' (s1.trans s') (Rt.up s0 s1 hu)⟩
    · cases hg
  · cases hg
/-- the making of an instance: __init__ stores its three arguments -/
def spInit (K : PySem.W.Frag) (C : Addr) (n1 n2 n3 : PySem.Str) : Sp := fun vs H Q _ => ∃ x dx v1 v2 v3, vs = [.ref x, v1, v2, v3] ∧ H x = some (.ins C dx []) ∧
  ∀ H', (∀ b ob, b ≠ x → H b = some ob → H' b = some ob) → H' x = some (.ins C dx [(n1, v1), (n2, v2), (n3, v3)]) → Q .non H'
structure Mkr (P : Program) (w : World) (K : PySem.W.Frag) (mg : PySem.Str → Option Value) (base : Heap) (k : Nat) (x : PySem.Str) (C : Addr) (n1 n2 n3 : PySem.Str) : Prop where
  ex : ∃ (ft : Addr) (fd : FuncData) (ps : List PySem.Str), Mk K C ft ∧ mg x = some (.ref C) ∧ FnOk P w K mg base CX0 k ft fd ps (spInit K C n1 n2 n3) ∧ Binds K fd ps []
def eMake (C : Addr) (n1 n2 n3 : PySem.Str) (f : List Vl → Option (List Vl)) : List Vl → Option Vl := eC (fun as => match as with
  | [.d x, .d y, .d z] => some (.i C [(n1, x), (n2, y), (n3, z)])
  | _ => none) f
theorem d_make {C : Addr} {k j : Nat} {n1 n2 n3 : PySem.Str} (cl : Mkr X.prog X.w X.K X.mg X.base k x C n1 n2 n3) (hK : X.K = K) (hr : Room j X.A) (hk : k + 1 ≤ j) (hg : Gl X x) (ha : PA X (a :: es) (tA K fs))
    (hdb : (x == ("__debug__" : PySem.Str)) = false := by decide) (he : starEach (a :: es) X.env = (false, eval a X.env) :: starEach es X.env := by rfl) (hpl : (backTo pos (starEach es X.env)).any (·.1) = false := by rfl) :
    PE X (.Call (.Name x p) (a :: es) [] pos) (tD K (eMake C n1 n2 n3 fs)) := by
  subst hK
  obtain ⟨ft, fd, ps, h1, h2, h3, h4⟩ := cl.ex
  refine pe_wk (pe_make h1 h3 (hr.mono hk) hg h2 h4 .nil pass0 ha hdb he hpl) fun σ H Q h => ?_
  obtain ⟨H0, env, val, s0, he, hf, q⟩ := h
  obtain ⟨as, hx, hf⟩ := Option.bind_eq_some_iff.mp hf
  refine ⟨H0, env, as, s0, he, hx, fun vs H1 s1 hv => ?_⟩
  split at hf
  · rename_i xd yd zd
    cases hf
    cases hv with
    | cons g1 t =>
      cases t with
      | cons g2 t =>
        cases t with
        | cons g3 t =>
          cases t
          rename_i v1 v2 v3
          intro y dx hy hdx hne
          refine ⟨y, dx, v1, v2, v3, by rw [List.append_nil], upd_same, fun H' k1 k2 => ⟨rfl, ?_⟩⟩
          have sH : Same H1 H' := fun b ob eb => by
            have nb : b ≠ y := fun z => by rw [z, hy] at eb; cases eb
            have nd : b ≠ dx := fun z => by rw [z, hdx] at eb; cases eb
            exact k1 b ob nb (by rw [upd_ne nb, upd_ne nd]; exact eb)
          have t := same_tup sH
          exact q _ H' (s1.trans sH) ⟨y, dx, _, rfl, k2, .cons (Rep.mono t xd v1 g1) (.cons (Rep.mono t yd v2 g2) (.cons (Rep.mono t zd v3 g3) .nil))⟩
  · cases hf

/-! ### dicts by ints -/
def valO (kvs : List (Key × Option D)) (k : Key) : Option (Option D) := (kvs.find? fun kv => decide (kv.1 = k)).map (·.2)
def putO (kvs : List (Key × Option D)) (k : Key) (o : Option D) : List (Key × Option D) :=
  if (kvs.any fun kv => decide (kv.1 = k)) = true then kvs.map (fun kv => if kv.1 = k then (kv.1, o) else kv) else kvs ++ [(k, o)]
def dropO (kvs : List (Key × Option D)) (k : Key) : List (Key × Option D) := kvs.filter fun kv => decide (kv.1 ≠ k)
theorem MapK.val {H : Hp} {kvs : List (Key × V)} {kds : List (Key × Option D)} (h : MapK K H kvs kds) (k : Key) : (valO kds k = none → valV kvs k = none) ∧ ∀ o, valO kds k = some o → ∃ v, valV kvs k = some v ∧ ∀ d, o = some d → Rep K H v d := by
  induction h with
  | nil => exact ⟨fun _ => rfl, fun o e => nomatch e⟩
  | @cons k1 v1 o1 r s h1 _ ih =>
    by_cases hk : k1 = k
    · have e' : valO ((k1, o1) :: s) k = some o1 := by simp [valO, List.find?_cons, hk]
      rw [e']
      refine ⟨fun z => (nomatch z), fun o e => ?_⟩
      cases e
      exact ⟨v1, valV_pos hk, h1⟩
    · have e' : valO ((k1, o1) :: s) k = valO s k := by simp [valO, List.find?_cons, hk]
      rw [e', valV_neg hk]
      exact ih
theorem MapK.any {H : Hp} {kvs : List (Key × V)} {kds : List (Key × Option D)} (h : MapK K H kvs kds) (k : Key) : (kvs.any fun kv => decide (kv.1 = k)) = (kds.any fun kv => decide (kv.1 = k)) := by
  induction h with
  | nil => rfl
  | cons _ _ ih => rw [List.any_cons, List.any_cons, ih]
theorem MapK.put {H : Hp} {kvs : List (Key × V)} {kds : List (Key × Option D)} (h : MapK K H kvs kds) {k : Key} {v : V} {o : Option D} (hv : ∀ d, o = some d → Rep K H v d) : MapK K H (putK kvs k v) (putO kds k o) := by
  unfold putK putO
  rw [h.any k]
  split
  · rename_i hc
    clear hc
    induction h with
    | nil => exact .nil
    | @cons k1 v1 o1 r s h1 _ ih =>
      rw [List.map_cons, List.map_cons]
      by_cases hk : k1 = k
      · rw [if_pos hk, if_pos hk]; exact .cons hv ih
      · rw [if_neg hk, if_neg hk]; exact .cons h1 ih
  · rename_i hc
    clear hc
    induction h with
    | nil => exact .cons hv .nil
    | cons h1 _ ih => exact .cons h1 ih
theorem MapK.drop {H : Hp} {kvs : List (Key × V)} {kds : List (Key × Option D)} (h : MapK K H kvs kds) (k : Key) : MapK K H (dropK kvs k) (dropO kds k) := by
  unfold dropK dropO
  induction h with
  | nil => exact .nil
  | @cons k1 v1 o1 r s h1 _ ih =>
    rw [List.filter_cons, List.filter_cons]
    by_cases hk : k1 = k
    · rw [if_neg (by simp [hk]), if_neg (by simp [hk])]; exact ih
    · rw [if_pos (by simp [hk]), if_pos (by simp [hk])]; exact .cons h1 ih
theorem MapK.length {H : Hp} {kvs : List (Key × V)} {kds : List (Key × Option D)} (h : MapK K H kvs kds) : kvs.length = kds.length := by
  induction h with
  | nil => rfl
  | cons _ _ ih => rw [List.length_cons, List.length_cons, ih]
def eNewK : List Vl → Option Vl := fun _ => some (.k [])
theorem d_newK : PE X (.Dict [] [] pos) (tD K eNewK) := pe_wk pe_dnewK fun σ H Q h => by
  obtain ⟨H0, env, val, s0, he, hf, q⟩ := h
  cases hf
  exact fun p hp => q _ _ (same_new hp) ⟨p, [], rfl, hp, upd_same, .nil⟩
def kOf (i : Nat) : List Vl → Option (List (Key × Option D)) := fun env => match env[i]? with
  | some (.k kvs) => some kvs
  | _ => none
theorem kOf_at {env : List Vl} {kvs : List (Key × Option D)} (h : kOf i env = some kvs) : env[i]? = some (.k kvs) := by
  unfold kOf at h
  split at h
  · cases h
    assumption
  · cases h
def cNotK (i : Nat) (fe : List Vl → Option Vl) : List Vl → Option Bool := fun env => (fe env).bind fun v => (datOf v).bind fun d => (key1 d).bind fun k => (kOf i env).map fun kvs => !(valO kvs k).isSome
theorem pt_ofPC {op : CmpOp} {t : TE} {tt : TT} (h : PC X op a b t) (hm : behindInMarks op b = false) (w : ∀ σ H Q, tt σ H Q → tB t σ H Q) : PT X (.Compare a [op] [b] pos) tt := pt_wk (pt_cmp h hm) w
theorem ct_notK (hu : X.A.units + 100 < cLine) (he : PE X e (tD K fa)) (hN : X.N[i]? = some x := by rfl) (hv : Vis X.env.scope x := by first | exact Or.inl rfl | exact Or.inr (Or.inl rfl) | exact Or.inr (Or.inr rfl))
    (hd : (x == ("__debug__" : PySem.Str)) = false := by decide) (hcd : (x == ("__classdict__" : PySem.Str)) = false := by decide) (hm : behindInMarks .NotIn (.Name x p) = false := by rfl) : PT X (.Compare e [.NotIn] [.Name x p] pos) (tT K (cNotK i fa)) := by
  refine pt_ofPC (pc_dnotin (by omega) he (pe_var hN hv hd hcd)) hm fun σ H Q h => ?_
  obtain ⟨H0, env, bb, s0, he, hf, q⟩ := h
  obtain ⟨v, h1, hf⟩ := Option.bind_eq_some_iff.mp hf
  obtain ⟨d, h2, hf⟩ := Option.bind_eq_some_iff.mp hf
  obtain ⟨k, h3, hf⟩ := Option.bind_eq_some_iff.mp hf
  obtain ⟨kvs, h4, hf⟩ := Option.map_eq_some_iff.mp hf
  subst hf
  refine ⟨H0, env, v, s0, he, h1, fun u H1 s1 hu => ?_⟩
  obtain ⟨w, e1, aa, ws, rfl, hn, hq, hm⟩ := (he.same s1).at_ i _ (kOf_at h4) (by intro z; cases z)
  have ek := (hu.dat h2).key h3
  subst ek
  refine ⟨_, e1, aa, valV ws k, rfl, DGet.k hq, _, rfl, ?_⟩
  have e2 : (valV ws k).isSome = (valO kvs k).isSome := by
    cases hval : valO kvs k with
    | none => rw [(hm.val k).1 hval] <;> rfl
    | some o =>
      obtain ⟨v', e3, _⟩ := (hm.val k).2 o hval
      rw [e3] <;> rfl
  rw [e2]
  exact q H1 s1
theorem EnvOk.writeK {H0 H : Hp} {σ : L2.St} {env : List Vl} (h : EnvOk K H0 H σ env) {a : Addr} {ks ls : List (Key × Option D)} {vs ws : List (Key × V)} (hi : env[i]? = some (.k ks)) (hσ : σ[i]? = some (some (.ref a))) (hn : H0 a = none) (hH : H a = some (.dK vs)) (r : MapK K H ws ls) :
    EnvOk K H0 (upd H a (.dK ws)) σ (env.set i (.k ls)) :=
  h.writeG hi rfl hσ hH trivial (fun _ z => nomatch z) (fun _ _ _ z => nomatch z) rfl rfl ⟨a, ws, rfl, hn, upd_same, r.mono (upd_tup (fun _ z => by rw [hH] at z; cases z) fun _ _ z => by rw [hH] at z; cases z)⟩
theorem tup_updK {H : Hp} {a : Addr} {vs : List (Key × V)} {ob : HO} (h : H a = some (.dK vs)) : TupLe H (upd H a ob) := upd_tup (fun _ z => by rw [h] at z; cases z) fun _ _ z => by rw [h] at z; cases z
/-- name[k] = e -/
def sPutK (i : Nat) (fe fi : List Vl → Option Vl) : List Vl → Option Out := fun env => (fe env).bind fun v => (datOf v).bind fun y => (fi env).bind fun b => (datOf b).bind fun d => (key1 d).bind fun k => (kOf i env).bind fun kvs => if kvs.length ≤ 1000 then some (.nx (env.set i (.k (putO kvs k (some y))))) else none
theorem s_putK {tpos : Pos} (hu : X.A.units + 100 < cLine) (he' : PE X e (tD K fa)) (hb : PE X b (tD K fb)) (hN : X.N[i]? = some x := by rfl) (hv : Vis X.env.scope x := by first | exact Or.inl rfl | exact Or.inr (Or.inl rfl) | exact Or.inr (Or.inr rfl))
    (hd : (x == ("__debug__" : PySem.Str)) = false := by decide) (hcd : (x == ("__classdict__" : PySem.Str)) = false := by decide) (hs : swapsWith e (some (.Subscript (.Name x p) b tpos)) pos.line X.env = pure false := by rfl) :
    PS X (.Assign [.Subscript (.Name x p) b tpos] e pos) (tS K (sPutK i fa fb)) := by
  refine ps_wk (ps_dput (by omega) (pe_var hN hv hd hcd) hb he' hs) fun D σ H h => ?_
  obtain ⟨H0, env, out, s0, he, hf, q⟩ := h
  obtain ⟨v, h1, hf⟩ := Option.bind_eq_some_iff.mp hf
  obtain ⟨y, h2, hf⟩ := Option.bind_eq_some_iff.mp hf
  obtain ⟨bv, h3, hf⟩ := Option.bind_eq_some_iff.mp hf
  obtain ⟨d, h4, hf⟩ := Option.bind_eq_some_iff.mp hf
  obtain ⟨k, h5, hf⟩ := Option.bind_eq_some_iff.mp hf
  obtain ⟨kvs, h6, hf⟩ := Option.bind_eq_some_iff.mp hf
  split at hf
  · rename_i hl
    cases hf
    refine ⟨H0, env, v, s0, he, h1, fun w H1 s1 hw => ?_⟩
    obtain ⟨w2, e1, a', vs, rfl, hn, hq, hm⟩ := (he.same s1).at_ i _ (kOf_at h6) (by intro z; cases z)
    refine ⟨_, e1, H0, env, bv, s0.trans s1, he.same s1, h3, fun u H2 s2 hu => ?_⟩
    have ek := (hu.dat h4).key h5
    subst ek
    have hq2 := s2 _ _ hq
    have hm2 := hm.mono (same_tup s2)
    have s12 := s1.trans s2
    have hr : Rep K H2 w y := Rep.mono (same_tup s2) y w (hw.dat h2)
    refine ⟨a', _, rfl, DPut.k hq2 (by rw [hm.length, sizeLine_eq]; omega), ?_⟩
    exact q σ _ (same_upd0 (s0.trans s12) hn) ((same_tup s12).trans (tup_updK hq2)) ((he.same s12).writeK (kOf_at h6) e1 hn hq2 (hm2.put fun d' e => by cases e; exact hr))
  · cases hf
/-- name = dict.pop(k) -/
def sPop (j i : Nat) (fi : List Vl → Option Vl) : List Vl → Option Out := fun env => (fi env).bind fun b => (datOf b).bind fun d => (key1 d).bind fun k => (kOf i env).bind fun kvs => (valO kvs k).bind fun o => o.bind fun y => if j ≠ i then some (.nx ((env.set i (.k (dropO kvs k))).set j (.d y))) else none
theorem s_pop {j : Nat} {z : PySem.Str} {tpos : Pos} (hNd : X.N.Nodup) (hb : PE X b (tD K fb)) (m : M1 X (.Name x p) "pop" apos b pos) (hN : X.N[i]? = some x := by rfl) (hv : Vis X.env.scope x := by first | exact Or.inl rfl | exact Or.inr (Or.inl rfl) | exact Or.inr (Or.inr rfl))
    (hd : (x == ("__debug__" : PySem.Str)) = false := by decide) (hcd : (x == ("__classdict__" : PySem.Str)) = false := by decide)
    (hi : X.N[j]? = some z := by rfl) (hx : Loc X.env.scope z := by first | exact Or.inl rfl | exact Or.inr rfl) (hs : swapsWith (.Call (.Attribute (.Name x p) "pop" apos) [b] [] pos) (some (.Name z tpos)) pos'.line X.env = pure false := by rfl)
    (hf : X.fn z = true ∨ X.env.scope.names.lookup z = some .local := by first | exact .inl rfl | exact .inr rfl | assumption) :
    PS X (.Assign [.Name z tpos] (.Call (.Attribute (.Name x p) "pop" apos) [b] [] pos) pos') (tS K (sPop j i fb)) := by
  refine ps_wk (ps_set hNd hi hx (pe_dpop1 (pe_var hN hv hd hcd) hb m) hs hf) fun D σ H h => ?_
  obtain ⟨H0, env, out, s0, he, hf, q⟩ := h
  obtain ⟨bv, h3, hf⟩ := Option.bind_eq_some_iff.mp hf
  obtain ⟨d, h4, hf⟩ := Option.bind_eq_some_iff.mp hf
  obtain ⟨k, h5, hf⟩ := Option.bind_eq_some_iff.mp hf
  obtain ⟨kvs, h6, hf⟩ := Option.bind_eq_some_iff.mp hf
  obtain ⟨o, h7, hf⟩ := Option.bind_eq_some_iff.mp hf
  obtain ⟨y, h8, hf⟩ := Option.bind_eq_some_iff.mp hf
  split at hf
  · rename_i hne
    cases hf
    obtain ⟨w2, e1, a', vs, rfl, hn, hq, hm⟩ := he.at_ i _ (kOf_at h6) (by intro z; cases z)
    refine ⟨_, e1, a', rfl, .inl ⟨vs, .inl hq⟩, H0, env, bv, s0, he, h3, fun u H1 s1 hu => ?_⟩
    have ek := (hu.dat h4).key h5
    subst ek
    have hq1 := s1 _ _ hq
    have hm1 := hm.mono (same_tup s1)
    obtain ⟨v, e2, e3⟩ := (hm1.val k).2 o h7
    refine ⟨vs, k, v, hq1, rfl, e2, ?_⟩
    have hr : Rep K H1 v y := e3 y h8
    refine q _ _ (same_upd0 (s0.trans s1) hn) ((same_tup s1).trans (tup_updK hq1)) ?_
    exact ((he.same s1).writeK (kOf_at h6) e1 hn hq1 (hm1.drop k)).setD (Rep.mono (tup_updK hq1) y v hr)
  · cases hf

/-! ### pairs of lists -/
def ePair (i j : Nat) : List Vl → Option Vl := fun env => match env[i]?, env[j]? with
  | some (.o xs), some (.o ys) => some (.p xs ys)
  | _, _ => none
theorem d_pair {j n : Nat} {y : PySem.Str} {p2 : Pos} (hN : X.N[i]? = some x := by rfl) (hv : Vis X.env.scope x := by first | exact Or.inl rfl | exact Or.inr (Or.inl rfl) | exact Or.inr (Or.inr rfl))
    (hd : (x == ("__debug__" : PySem.Str)) = false := by decide) (hcd : (x == ("__classdict__" : PySem.Str)) = false := by decide) (hN2 : X.N[j]? = some y := by rfl) (hv2 : Vis X.env.scope y := by first | exact Or.inl rfl | exact Or.inr (Or.inl rfl) | exact Or.inr (Or.inr rfl))
    (hd2 : (y == ("__debug__" : PySem.Str)) = false := by decide) (hcd2 : (y == ("__classdict__" : PySem.Str)) = false := by decide)
    (hs : starEach [.Name x p, .Name y p2] X.env = (false, eval (.Name x p) X.env) :: starEach [.Name y p2] X.env := by rfl) (hs2 : starEach [.Name y p2] X.env = (false, eval (.Name y p2) X.env) :: starEach [] X.env := by rfl) :
    PE X (.Tuple [.Name x p, .Name y p2] n pos) (tD K (ePair i j)) := pe_wk (pe_tup (pa_cons (pe_var hN hv hd hcd) (pa_cons (pe_var hN2 hv2 hd2 hcd2) pa_nil hs2) hs)) fun σ H Q h => by
  obtain ⟨H0, env, val, s0, he, hf, q⟩ := h
  unfold ePair at hf
  split at hf
  · rename_i xs ys h1 h2
    cases hf
    obtain ⟨v1, e1, a1, vs1, rfl, n1, q1, r1⟩ := he.at_ i _ h1 (by intro z; cases z)
    obtain ⟨v2, e2, a2, vs2, rfl, n2, q2, r2⟩ := he.at_ j _ h2 (by intro z; cases z)
    refine ⟨_, e1, _, e2, line1000 (by simp), fun t ht => ?_⟩
    have s := same_new (o := HO.tup [V.ref a1, V.ref a2]) ht
    exact q _ _ s ⟨t, a1, a2, vs1, vs2, rfl, upd_same, n1, s _ _ q1, r1.mono (same_tup s), n2, s _ _ q2, r2.mono (same_tup s)⟩
  · cases hf
/-- the first of a pair of lists -/
def eFst (f : List Vl → Option Vl) : List Vl → Option Vl := fun env => (f env).bind fun v => match v with
  | .p xs _ => some (.u xs)
  | _ => none
theorem d_fst {j : Nat} (hK : X.K = K) (ha : PE X a (tD K fa)) (hs : PlainIx (.Constant (.int 0) j p) := by exact fun _ _ => rfl) : PE X (.Subscript a (.Constant (.int 0) j p) pos) (tD K (eFst fa)) := by
  subst hK
  refine pe_wk (pe_ix ix_seq ha pe_int hs) fun σ H Q h => ?_
  obtain ⟨H0, env, val, s0, he, hf, q⟩ := h
  obtain ⟨x, hx, hf⟩ := Option.bind_eq_some_iff.mp hf
  split at hf
  · cases hf
    refine ⟨H0, env, _, s0, he, hx, fun v H1 s1 hv => ?_⟩
    obtain ⟨t, a1, a2, vs, ws, rfl, q0, n1, q1, r1, n2, q2, r2⟩ := hv
    exact .inr (.inl ⟨t, _, 0, _, rfl, rfl, .of q0, rfl, q _ H1 s1 ⟨a1, vs, rfl, n1, q1, r1⟩⟩)
  · cases hf
end
end K98

/-! ## DL8 -/
/-! sum(d.values()), enumerate(tuple). -/
namespace K98
open PySem PySem.Spec PyProof.Rows L2
section
variable {K : PySem.W.Frag} {X : Cx} {a b c e o : Expr} {es : List Expr} {fa fb fc : List Vl → Option Vl} {fs : List Vl → Option (List Vl)} {pos pos' apos cpos : Pos} {x m : PySem.Str} {p : Pos} {i : Nat}

theorem kv_at {kvs : List (Key × V)} {vs : List (Key × Value)} (h : KV kvs vs) {ns : List Int} (hn : kvs.map (·.2) = ns.map V.int) : ∀ (j : Nat) (k : Key) (v : Value), vs[j]? = some (k, v) → ∃ t, v = .int (ns.getD j 0) t := by
  induction h generalizing ns with
  | nil => intro j k v e; simp at e
  | @cons kv w ps qs h1 _ ih =>
    intro j k v e
    cases ns with
    | nil => simp at hn
    | cons n ns =>
      simp only [List.map_cons, List.cons.injEq] at hn
      cases j with
      | zero =>
        simp only [List.getElem?_cons_zero, Option.some.injEq] at e
        subst e
        have r := h1.2
        rw [hn.1] at r
        obtain ⟨t, ht⟩ := r
        exact ⟨t, by simpa using ht⟩
      | succ j =>
        obtain ⟨t, ht⟩ := ih hn.2 j k v (by simpa using e)
        exact ⟨t, by simpa using ht⟩
def tSumV (td : TE) : TE := fun σ H Q => td σ H fun y H1 => ∃ (d : Addr) (kvs : List (Key × V)) (ns : List Int), y = .ref d ∧ H1 d = some (.dK kvs) ∧ kvs.map (·.2) = ns.map V.int ∧ Q (.int ns.sum) H1
theorem pe_sumV {td : TE} (hc : X.calm = true) (hg : Gl X "sum") (hm : X.mg "sum" = none) (he : PE X e td) (hbase : attributeBase e "values" X.env (eval e X.env) = eval e X.env := by rfl) (hline : (apos.endLine == cpos.line) = true := by rfl)
    (na : starEach [.Call (.Attribute e "values" apos) [] [] cpos] X.env = (false, eval (.Call (.Attribute e "values" apos) [] [] cpos) X.env) :: starEach [] X.env := by rfl) : PE X (.Call (.Name "sum" p) [.Call (.Attribute e "values" apos) [] [] cpos] [] pos) (tSumV td) := by
  refine ⟨fun pins s σ H Q I h => ?_⟩
  refine Call_ (ld_blt I hg hm PyProof.Rows.boot_sum ?_)
  refine PyProof.Rows.callWith_builtin1 (PyProof.Rows.args_cons ?_ na) na rfl
  refine wpAny_Call_method (T := "dict") (id := "dict.values") hbase rfl hline F.plainAttrs_dict F.slot_dict_values F.type_dict_values (thn (he.run pins s σ H _ I h) fun u s1 ⟨y, H1, I1, rx, d, kvs, ns, ex, hd, hns, q⟩ => ?_)
  subst ex
  obtain rfl : u = Value.ref d := rx
  obtain ⟨z, hs, vs, kv, o', es, ep, ho, hx, hdt, r⟩ := I1.hok d _ hd
  have hm : s1.heap.DictAt (mixKind X.prog X.w) d vs ep := ⟨o', es, ho, hx, hdt, r⟩
  have hl : kvs.length = vs.length := Paired.length kv
  have hlt : d < s1.heap.objs.size := Heap.lt_size ho
  refine ⟨hm.dictOf.typeIs, hm.dictOf.mapOf.noDict, ?_⟩
  show wpAny _ _ (callWith cpos (.builtin "dict.values") [.ref d] [] []) _ X.xe s1
  refine method_meetsIn F.slot_dict_values F.entry_dict_values rfl (PySem.evalArgs_none ⟨rfl, hm.dictOf.typeIs, F.args_dict_values_1 _, _, meets_dict_values (mixKind X.prog X.w) d hs, ⟨vs, hm.dictOf⟩, PyProof.Rows.args_nil ?_⟩)
  refine call_sum_walkG (wpAny_pyIter_values (d := d) (knd := mixKind X.prog X.w) ⟨_, Heap.get?_push_size _ rfl, rfl, rfl⟩ (hm.push _) ?_)
  refine ⟨_, _, _, _, _, _, fun j => ns.getD j 0, rfl, Walks.dictValues (A := X.A.in1) (knd := mixKind X.prog X.w) (I1.ok.hd hc) _ d ?_ vs ep, ⟨⟨_, Heap.get?_push_size _ rfl, rfl, rfl⟩, (hm.push _).push _⟩, fun b hb => ?_, fun j v hv => ?_, fun h' tk t' hk => ?_⟩
  · show d ≠ (s1.heap.push _).objs.size
    rw [Heap.size_push]
    exact Nat.ne_of_lt (Nat.lt_succ_of_lt hlt)
  · show b < ((s1.heap.push _).push _).objs.size
    rw [Heap.size_push, Heap.size_push]
    rcases List.mem_cons.mp hb with q | hb
    · rw [q]
      show (s1.heap.push _).objs.size < _
      rw [Heap.size_push]
      exact Nat.lt_succ_self _
    · rcases List.mem_cons.mp hb with q | hb
      · rw [q]; exact Nat.lt_succ_of_lt (Nat.lt_succ_of_lt hlt)
      · cases hb
  · obtain ⟨k, hk⟩ := hv
    exact kv_at kv hns j k v hk
  · have e : preSum (fun j => ns.getD j 0) vs.length = ns.sum := by
      have hln : vs.length = ns.length := by
        have := congrArg List.length hns
        rw [List.length_map, List.length_map] at this
        omega
      rw [PyProof.Rows.preSum_getD, hln, List.take_length]
    rw [e]
    have I2 : Inv X pins σ H1 { s1 with heap := h', toks := tk } := I1.kept (t' := tk) fun b ob eb => hk b ob (fun hb => by
      have eb' := List.mem_singleton.mp hb
      have lb := Heap.lt_size eb
      rw [eb'] at lb
      simp only [Heap.size_push] at lb
      exact absurd lb (Nat.not_lt.mpr (Nat.le_succ _))) (Heap.get?_push_of_some _ (Heap.get?_push_of_some _ eb))
    exact ⟨.int ns.sum, H1, I2, ⟨_, rfl⟩, q⟩
def intsO : List (Key × Option D) → Option (List Int)
  | [] => some []
  | (_, some (.int i)) :: r => (intsO r).map fun l => i :: l
  | _ => none
theorem MapK.ints {H : Hp} : ∀ {ks : List (Key × Option D)} {kvs : List (Key × V)} {ns : List Int}, MapK K H kvs ks → intsO ks = some ns → kvs.map (·.2) = ns.map V.int
  | [], _, _, h, e => by cases h; cases e; rfl
  | (k, some (.int i)) :: r, _, _, h, e => by
    cases h with
    | cons h1 h2 =>
      cases (h1 _ rfl)
      obtain ⟨l, hl, e⟩ := Option.map_eq_some_iff.mp (show (intsO r).map (fun l => i :: l) = some _ from e)
      subst e
      rw [List.map_cons, MapK.ints h2 hl] <;> rfl
  | (_, none) :: _, _, _, _, e => by cases e
  | (_, some .non) :: _, _, _, _, e => by cases e
  | (_, some (.str _)) :: _, _, _, _, e => by cases e
  | (_, some (.tup _)) :: _, _, _, _, e => by cases e
  | (_, some (.tp _)) :: _, _, _, _, e => by cases e
  | (_, some (.tk _)) :: _, _, _, _, e => by cases e
def eSumV (i : Nat) : List Vl → Option Vl := fun env => (kOf i env).bind fun kvs => (intsO kvs).map fun ns => .d (.int ns.sum)
theorem d_sumV {p2 : Pos} (hc : X.calm = true) (hg : Gl X "sum") (hm : X.mg "sum" = none) (hN : X.N[i]? = some x := by rfl) (hv : Vis X.env.scope x := by first | exact Or.inl rfl | exact Or.inr (Or.inl rfl) | exact Or.inr (Or.inr rfl))
    (hd : (x == ("__debug__" : PySem.Str)) = false := by decide) (hcd : (x == ("__classdict__" : PySem.Str)) = false := by decide) (hbase : attributeBase (.Name x p2) "values" X.env (eval (.Name x p2) X.env) = eval (.Name x p2) X.env := by rfl) (hline : (apos.endLine == cpos.line) = true := by rfl)
    (na : starEach [.Call (.Attribute (.Name x p2) "values" apos) [] [] cpos] X.env = (false, eval (.Call (.Attribute (.Name x p2) "values" apos) [] [] cpos) X.env) :: starEach [] X.env := by rfl) : PE X (.Call (.Name "sum" p) [.Call (.Attribute (.Name x p2) "values" apos) [] [] cpos] [] pos) (tD K (eSumV i)) := by
  refine pe_wk (pe_sumV hc hg hm (pe_var hN hv hd hcd) hbase hline na) fun σ H Q h => ?_
  obtain ⟨H0, env, val, s0, he, hf, q⟩ := h
  obtain ⟨kvs, h1, hf⟩ := Option.bind_eq_some_iff.mp hf
  obtain ⟨ns, h2, hf⟩ := Option.map_eq_some_iff.mp hf
  subst hf
  obtain ⟨w2, e1, a', ws, rfl, hn, hq, hm⟩ := he.at_ i _ (kOf_at h1) (by intro z; cases z)
  exact ⟨_, e1, a', ws, ns, rfl, hq, hm.ints h2, q _ H (Same.refl H) (Rep.int _)⟩

theorem gives_enumT {p : Addr} {vs : List V} {ds : List D} {Hs Ht : Hp} (h : ∀ H, TupLe Ht H → SqT K H p vs) (r : RepL K Ht vs ds) : Gives K (IteT K p) (enumD 0 ds) Hs Ht := by
  refine ⟨fun H => SqT K H p vs, YPair (fun i => some (.int (i : Nat))) (fun i => vs[i]?), by rw [enumD_len, ← r.length]; exact walk_enumT (K := K) (a := p) (xs := vs), fun H s t => h H t, fun i H v H' _ s t y => ?_⟩
  obtain ⟨T, x, y', rfl, hT, rfl, e1, e2⟩ := y
  cases e1
  obtain ⟨d, e, rd⟩ := r.get' e2
  have t' : TupLe Ht (upd H T (.tup [.int (i : Nat), y'])) := t.trans (same_tup (same_new hT))
  refine ⟨same_new hT, _, enumD_at e, ?_⟩
  rw [Nat.zero_add]
  exact Rep.tup upd_same (.cons (.int _) (.cons (Rep.mono t' d y' rd) .nil))
def sEnumT (f : List Vl → Option (List Vl)) : List Vl → Option (List D) := fun env => (f env).bind fun as => match as with
  | [a] => (anyTup a).map fun xs => enumD 0 xs
  | _ => none
theorem i_enumT {elts : List Expr} {kk : Nat} {tpos : Pos} {own : Bool} (hK : X.K = K) (hg : Gl X "enumerate") (hm : X.mg "enumerate" = none) (ha : PA X [a] (tA K fs)) (hs : starEach [a] X.env = [(false, eval a X.env)] := by rfl) :
    PI X (.Tuple elts kk tpos) (.Call (.Name "enumerate" p) [a] [] pos) (tI K own (sEnumT fs)) := by
  subst hK
  refine pi_wk (pi_enumT hg hm ha hs) fun σ H R h => ?_
  obtain ⟨H0, env, ds, s0, he, hf, q⟩ := h
  obtain ⟨as, hx, hf⟩ := Option.bind_eq_some_iff.mp hf
  refine ⟨H0, env, as, s0, he, hx, fun ws H1 s1 hv => ?_⟩
  cases hv with
  | nil => cases hf
  | cons h1 t =>
    cases t with
    | cons _ _ => cases hf
    | nil =>
      obtain ⟨xs, e1, hf⟩ := Option.map_eq_some_iff.mp hf
      subst hf
      obtain ⟨p, vs, rfl, hT, r⟩ := h1.anyS e1
      exact ⟨p, vs, rfl, hT _ TupLe.refl, q _ H1 none s1 (fun _ _ e => nomatch e) fun Hs _ => gives_enumT hT r⟩
/-- int(test) -/
def eIntB (t : List Vl → Option Bool) : List Vl → Option Vl := fun env => (t env).map fun k => .d (.int (if k then 1 else 0))
end
end K98

/-! ## Names -/
namespace K98
open PySem PySem.Spec PyProof.Rows L2

def topS (i : Nat) : Stmt := PySem.Challenge.pw_wholeglance_k98_whole_sums.main.body.getD i (.Pass ⟨0, 0, 0, 0⟩)
abbrev s_Sums_init : Stmt := inClass (topS 6) 0
abbrev s_Sums_deed : Stmt := inClass (topS 8) 0
abbrev s_Sums_answer : Stmt := inClass (topS 8) 1
abbrev s_hands_of : Stmt := topS 1
abbrev s_places_of : Stmt := topS 2
abbrev s_shakes_of : Stmt := topS 3
abbrev s_at_job : Stmt := topS 14
abbrev s_next_deed : Stmt := topS 15
abbrev s_answer_of : Stmt := topS 16
abbrev s_deeds_done : Stmt := topS 17
abbrev s_ahead_of : Stmt := topS 18
abbrev s_last_collects : Stmt := topS 20
abbrev s_changed_at : Stmt := topS 21
abbrev s_seen_often : Stmt := topS 22
abbrev s_others : Stmt := topS 23
abbrev s_number_behind : Stmt := topS 25
abbrev s_values_of : Stmt := topS 26
abbrev s_own_read : Stmt := topS 27
abbrev s_next_once : Stmt := topS 28
abbrev s_look_twice : Stmt := topS 29
abbrev s_next_twice : Stmt := topS 30
abbrev s_all_moved : Stmt := topS 31
abbrev s_look_handed : Stmt := topS 32
abbrev s_next_handed : Stmt := topS 33
abbrev s_round_length_signs : Stmt := topS 47
abbrev s_shake_step : Stmt := topS 49
abbrev s_moved_in_signs : Stmt := topS 50
abbrev s_look_signs : Stmt := topS 52
abbrev s_calls_of : Stmt := topS 53
abbrev s_next_signs : Stmt := topS 54
abbrev s_next_step : Stmt := topS 61
abbrev s_zeros : Stmt := topS 63
abbrev s_between : Stmt := topS 64
abbrev s_first_own : Stmt := topS 65
abbrev s_first_boxes : Stmt := topS 66
abbrev s_first_row : Stmt := topS 71
abbrev s_begun : Stmt := topS 72
abbrev s_state_of : Stmt := topS 73
abbrev s_deed_there : Stmt := topS 74
abbrev s_may_step : Stmt := topS 75
abbrev s_boxes_behind : Stmt := topS 76
abbrev s_reading : Stmt := topS 77
abbrev s_with_state : Stmt := topS 78
abbrev s_since_begin : Stmt := topS 79
abbrev s_own_row : Stmt := topS 80
abbrev s_stepped_end : Stmt := topS 81
abbrev s_stepped : Stmt := topS 82
abbrev s_followed : Stmt := topS 84
abbrev s_story : Stmt := topS 85
abbrev s_law_hand : Stmt := topS 87
abbrev s_law_take : Stmt := topS 88
abbrev s_law_pick : Stmt := topS 89
abbrev s_law_right_manner : Stmt := topS 90
abbrev s_law_woven : Stmt := topS 91
abbrev s_law_total : Stmt := topS 92
abbrev s_law : Stmt := topS 93
abbrev FnP (K : PySem.W.Frag) (x : PySem.Str) (st : Stmt) (ft : Addr) (fd : FuncData) : Prop := FunD K x x (defArgs st) (defBody st) (defScope st) [] [] ft fd
/-- the class of the jobs of sums -/
structure SumsC (K : PySem.W.Frag) (mg : PySem.Str → Option Value) (C : Addr) : Prop where
  at_ : mg "Sums" = some (.ref C)
  cls : Cls K C
  n_own : NoAttr K C "own"
  n_said : NoAttr K C "said"
  n_told : NoAttr K C "told"
  init : ∃ ft fd, Mk K C ft ∧ FunD K "__init__" "Job.__init__" (defArgs s_Sums_init) (defBody s_Sums_init) (defScope s_Sums_init) [] [] ft fd
  deed : ∃ ft fd, Meth K C "deed" ft ∧ FunD K "deed" "Sums.deed" (defArgs s_Sums_deed) (defBody s_Sums_deed) (defScope s_Sums_deed) [] [] ft fd
  answer : ∃ ft fd, Meth K C "answer" ft ∧ FunD K "answer" "Sums.answer" (defArgs s_Sums_answer) (defBody s_Sums_answer) (defScope s_Sums_answer) [] [] ft fd
/-- what stands behind the top -/
structure Top (K : PySem.W.Frag) (mg : PySem.Str → Option Value) : Prop where
  hands_of : ∃ ft fd, FnP K "hands_of" s_hands_of ft fd ∧ mg "hands_of" = some (.ref ft)
  places_of : ∃ ft fd, FnP K "places_of" s_places_of ft fd ∧ mg "places_of" = some (.ref ft)
  shakes_of : ∃ ft fd, FnP K "shakes_of" s_shakes_of ft fd ∧ mg "shakes_of" = some (.ref ft)
  at_job : ∃ ft fd, FnP K "at_job" s_at_job ft fd ∧ mg "at_job" = some (.ref ft)
  next_deed : ∃ ft fd, FnP K "next_deed" s_next_deed ft fd ∧ mg "next_deed" = some (.ref ft)
  answer_of : ∃ ft fd, FnP K "answer_of" s_answer_of ft fd ∧ mg "answer_of" = some (.ref ft)
  deeds_done : ∃ ft fd, FnP K "deeds_done" s_deeds_done ft fd ∧ mg "deeds_done" = some (.ref ft)
  ahead_of : ∃ ft fd, FnP K "ahead_of" s_ahead_of ft fd ∧ mg "ahead_of" = some (.ref ft)
  last_collects : ∃ ft fd, FnP K "last_collects" s_last_collects ft fd ∧ mg "last_collects" = some (.ref ft)
  changed_at : ∃ ft fd, FnP K "changed_at" s_changed_at ft fd ∧ mg "changed_at" = some (.ref ft)
  seen_often : ∃ ft fd, FnP K "seen_often" s_seen_often ft fd ∧ mg "seen_often" = some (.ref ft)
  others : ∃ ft fd, FnP K "others" s_others ft fd ∧ mg "others" = some (.ref ft)
  number_behind : ∃ ft fd, FnP K "number_behind" s_number_behind ft fd ∧ mg "number_behind" = some (.ref ft)
  values_of : ∃ ft fd, FnP K "values_of" s_values_of ft fd ∧ mg "values_of" = some (.ref ft)
  own_read : ∃ ft fd, FnP K "own_read" s_own_read ft fd ∧ mg "own_read" = some (.ref ft)
  next_once : ∃ ft fd, FnP K "next_once" s_next_once ft fd ∧ mg "next_once" = some (.ref ft)
  look_twice : ∃ ft fd, FnP K "look_twice" s_look_twice ft fd ∧ mg "look_twice" = some (.ref ft)
  next_twice : ∃ ft fd, FnP K "next_twice" s_next_twice ft fd ∧ mg "next_twice" = some (.ref ft)
  all_moved : ∃ ft fd, FnP K "all_moved" s_all_moved ft fd ∧ mg "all_moved" = some (.ref ft)
  look_handed : ∃ ft fd, FnP K "look_handed" s_look_handed ft fd ∧ mg "look_handed" = some (.ref ft)
  next_handed : ∃ ft fd, FnP K "next_handed" s_next_handed ft fd ∧ mg "next_handed" = some (.ref ft)
  round_length_signs : ∃ ft fd, FnP K "round_length" s_round_length_signs ft fd ∧ mg "round_length_signs" = some (.ref ft)
  shake_step : ∃ ft fd, FnP K "shake_step" s_shake_step ft fd ∧ mg "shake_step" = some (.ref ft)
  moved_in_signs : ∃ ft fd, FnP K "moved_in" s_moved_in_signs ft fd ∧ mg "moved_in_signs" = some (.ref ft)
  look_signs : ∃ ft fd, FnP K "look_signs" s_look_signs ft fd ∧ mg "look_signs" = some (.ref ft)
  calls_of : ∃ ft fd, FnP K "calls_of" s_calls_of ft fd ∧ mg "calls_of" = some (.ref ft)
  next_signs : ∃ ft fd, FnP K "next_signs" s_next_signs ft fd ∧ mg "next_signs" = some (.ref ft)
  next_step : ∃ ft fd, FnP K "next_step" s_next_step ft fd ∧ mg "next_step" = some (.ref ft)
  zeros : ∃ ft fd, FnP K "zeros" s_zeros ft fd ∧ mg "zeros" = some (.ref ft)
  between : ∃ ft fd, FnP K "between" s_between ft fd ∧ mg "between" = some (.ref ft)
  first_own : ∃ ft fd, FnP K "first_own" s_first_own ft fd ∧ mg "first_own" = some (.ref ft)
  first_boxes : ∃ ft fd, FnP K "first_boxes" s_first_boxes ft fd ∧ mg "first_boxes" = some (.ref ft)
  first_row : ∃ ft fd, FnP K "first_row" s_first_row ft fd ∧ mg "first_row" = some (.ref ft)
  begun : ∃ ft fd, FnP K "begun" s_begun ft fd ∧ mg "begun" = some (.ref ft)
  state_of : ∃ ft fd, FnP K "state_of" s_state_of ft fd ∧ mg "state_of" = some (.ref ft)
  deed_there : ∃ ft fd, FnP K "deed_there" s_deed_there ft fd ∧ mg "deed_there" = some (.ref ft)
  may_step : ∃ ft fd, FnP K "may_step" s_may_step ft fd ∧ mg "may_step" = some (.ref ft)
  boxes_behind : ∃ ft fd, FnP K "boxes_behind" s_boxes_behind ft fd ∧ mg "boxes_behind" = some (.ref ft)
  reading : ∃ ft fd, FnP K "reading" s_reading ft fd ∧ mg "reading" = some (.ref ft)
  with_state : ∃ ft fd, FnP K "with_state" s_with_state ft fd ∧ mg "with_state" = some (.ref ft)
  since_begin : ∃ ft fd, FnP K "since_begin" s_since_begin ft fd ∧ mg "since_begin" = some (.ref ft)
  own_row : ∃ ft fd, FnP K "own_row" s_own_row ft fd ∧ mg "own_row" = some (.ref ft)
  stepped_end : ∃ ft fd, FnP K "stepped_end" s_stepped_end ft fd ∧ mg "stepped_end" = some (.ref ft)
  stepped : ∃ ft fd, FnP K "stepped" s_stepped ft fd ∧ mg "stepped" = some (.ref ft)
  followed : ∃ ft fd, FnP K "followed" s_followed ft fd ∧ mg "followed" = some (.ref ft)
  story : ∃ ft fd, FnP K "story" s_story ft fd ∧ mg "story" = some (.ref ft)
  law_hand : ∃ ft fd, FnP K "_law_hand" s_law_hand ft fd ∧ mg "_law_hand" = some (.ref ft)
  law_take : ∃ ft fd, FnP K "_law_take" s_law_take ft fd ∧ mg "_law_take" = some (.ref ft)
  law_pick : ∃ ft fd, FnP K "_law_pick" s_law_pick ft fd ∧ mg "_law_pick" = some (.ref ft)
  law_right_manner : ∃ ft fd, FnP K "_law_right_manner" s_law_right_manner ft fd ∧ mg "_law_right_manner" = some (.ref ft)
  law_woven : ∃ ft fd, FnP K "_law_woven" s_law_woven ft fd ∧ mg "_law_woven" = some (.ref ft)
  law_total : ∃ ft fd, FnP K "_law_total" s_law_total ft fd ∧ mg "_law_total" = some (.ref ft)
  b_len : mg "len" = none
  b_range : mg "range" = none
  b_tuple : mg "tuple" = none
  b_sum : mg "sum" = none
  b_dict : mg "dict" = none
  b_sorted : mg "sorted" = none
  b_set : mg "set" = none
  b_list : mg "list" = none
  b_min : mg "min" = none
  b_any : mg "any" = none
  b_enumerate : mg "enumerate" = none
  b_zip : mg "zip" = none
  b_int : mg "int" = none
  look : ∃ p, mg "LOOK" = some (.ref p) ∧ ∀ H, Rep K H (.ref p) (.tk [.str "look"])
  sums : ∃ C, SumsC K mg C
end K98

/-! ## Head -/
/-! The head: the top's run, and what stands behind it by name. -/
namespace K98
open PySem PySem.Spec PyProof.Rows L2

def d_Sums_init : He.DefD := ⟨("Sums", some "__init__"), "__init__", "Job.__init__", defArgs s_Sums_init, defBody s_Sums_init, defScope s_Sums_init, [], []⟩
def d_Sums_deed : He.DefD := ⟨("Sums", some "deed"), "deed", "Sums.deed", defArgs s_Sums_deed, defBody s_Sums_deed, defScope s_Sums_deed, [], []⟩
def d_Sums_answer : He.DefD := ⟨("Sums", some "answer"), "answer", "Sums.answer", defArgs s_Sums_answer, defBody s_Sums_answer, defScope s_Sums_answer, [], []⟩
def d_hands_of : He.DefD := ⟨("hands_of", none), "hands_of", "hands_of", defArgs s_hands_of, defBody s_hands_of, defScope s_hands_of, [], []⟩
def d_places_of : He.DefD := ⟨("places_of", none), "places_of", "places_of", defArgs s_places_of, defBody s_places_of, defScope s_places_of, [], []⟩
def d_shakes_of : He.DefD := ⟨("shakes_of", none), "shakes_of", "shakes_of", defArgs s_shakes_of, defBody s_shakes_of, defScope s_shakes_of, [], []⟩
def d_at_job : He.DefD := ⟨("at_job", none), "at_job", "at_job", defArgs s_at_job, defBody s_at_job, defScope s_at_job, [], []⟩
def d_next_deed : He.DefD := ⟨("next_deed", none), "next_deed", "next_deed", defArgs s_next_deed, defBody s_next_deed, defScope s_next_deed, [], []⟩
def d_answer_of : He.DefD := ⟨("answer_of", none), "answer_of", "answer_of", defArgs s_answer_of, defBody s_answer_of, defScope s_answer_of, [], []⟩
def d_deeds_done : He.DefD := ⟨("deeds_done", none), "deeds_done", "deeds_done", defArgs s_deeds_done, defBody s_deeds_done, defScope s_deeds_done, [], []⟩
def d_ahead_of : He.DefD := ⟨("ahead_of", none), "ahead_of", "ahead_of", defArgs s_ahead_of, defBody s_ahead_of, defScope s_ahead_of, [], []⟩
def d_last_collects : He.DefD := ⟨("last_collects", none), "last_collects", "last_collects", defArgs s_last_collects, defBody s_last_collects, defScope s_last_collects, [], []⟩
def d_changed_at : He.DefD := ⟨("changed_at", none), "changed_at", "changed_at", defArgs s_changed_at, defBody s_changed_at, defScope s_changed_at, [], []⟩
def d_seen_often : He.DefD := ⟨("seen_often", none), "seen_often", "seen_often", defArgs s_seen_often, defBody s_seen_often, defScope s_seen_often, [], []⟩
def d_others : He.DefD := ⟨("others", none), "others", "others", defArgs s_others, defBody s_others, defScope s_others, [], []⟩
def d_number_behind : He.DefD := ⟨("number_behind", none), "number_behind", "number_behind", defArgs s_number_behind, defBody s_number_behind, defScope s_number_behind, [], []⟩
def d_values_of : He.DefD := ⟨("values_of", none), "values_of", "values_of", defArgs s_values_of, defBody s_values_of, defScope s_values_of, [], []⟩
def d_own_read : He.DefD := ⟨("own_read", none), "own_read", "own_read", defArgs s_own_read, defBody s_own_read, defScope s_own_read, [], []⟩
def d_next_once : He.DefD := ⟨("next_once", none), "next_once", "next_once", defArgs s_next_once, defBody s_next_once, defScope s_next_once, [], []⟩
def d_look_twice : He.DefD := ⟨("look_twice", none), "look_twice", "look_twice", defArgs s_look_twice, defBody s_look_twice, defScope s_look_twice, [], []⟩
def d_next_twice : He.DefD := ⟨("next_twice", none), "next_twice", "next_twice", defArgs s_next_twice, defBody s_next_twice, defScope s_next_twice, [], []⟩
def d_all_moved : He.DefD := ⟨("all_moved", none), "all_moved", "all_moved", defArgs s_all_moved, defBody s_all_moved, defScope s_all_moved, [], []⟩
def d_look_handed : He.DefD := ⟨("look_handed", none), "look_handed", "look_handed", defArgs s_look_handed, defBody s_look_handed, defScope s_look_handed, [], []⟩
def d_next_handed : He.DefD := ⟨("next_handed", none), "next_handed", "next_handed", defArgs s_next_handed, defBody s_next_handed, defScope s_next_handed, [], []⟩
def d_round_length_signs : He.DefD := ⟨("round_length_signs", none), "round_length", "round_length", defArgs s_round_length_signs, defBody s_round_length_signs, defScope s_round_length_signs, [], []⟩
def d_shake_step : He.DefD := ⟨("shake_step", none), "shake_step", "shake_step", defArgs s_shake_step, defBody s_shake_step, defScope s_shake_step, [], []⟩
def d_moved_in_signs : He.DefD := ⟨("moved_in_signs", none), "moved_in", "moved_in", defArgs s_moved_in_signs, defBody s_moved_in_signs, defScope s_moved_in_signs, [], []⟩
def d_look_signs : He.DefD := ⟨("look_signs", none), "look_signs", "look_signs", defArgs s_look_signs, defBody s_look_signs, defScope s_look_signs, [], []⟩
def d_calls_of : He.DefD := ⟨("calls_of", none), "calls_of", "calls_of", defArgs s_calls_of, defBody s_calls_of, defScope s_calls_of, [], []⟩
def d_next_signs : He.DefD := ⟨("next_signs", none), "next_signs", "next_signs", defArgs s_next_signs, defBody s_next_signs, defScope s_next_signs, [], []⟩
def d_next_step : He.DefD := ⟨("next_step", none), "next_step", "next_step", defArgs s_next_step, defBody s_next_step, defScope s_next_step, [], []⟩
def d_zeros : He.DefD := ⟨("zeros", none), "zeros", "zeros", defArgs s_zeros, defBody s_zeros, defScope s_zeros, [], []⟩
def d_between : He.DefD := ⟨("between", none), "between", "between", defArgs s_between, defBody s_between, defScope s_between, [], []⟩
def d_first_own : He.DefD := ⟨("first_own", none), "first_own", "first_own", defArgs s_first_own, defBody s_first_own, defScope s_first_own, [], []⟩
def d_first_boxes : He.DefD := ⟨("first_boxes", none), "first_boxes", "first_boxes", defArgs s_first_boxes, defBody s_first_boxes, defScope s_first_boxes, [], []⟩
def d_first_row : He.DefD := ⟨("first_row", none), "first_row", "first_row", defArgs s_first_row, defBody s_first_row, defScope s_first_row, [], []⟩
def d_begun : He.DefD := ⟨("begun", none), "begun", "begun", defArgs s_begun, defBody s_begun, defScope s_begun, [], []⟩
def d_state_of : He.DefD := ⟨("state_of", none), "state_of", "state_of", defArgs s_state_of, defBody s_state_of, defScope s_state_of, [], []⟩
def d_deed_there : He.DefD := ⟨("deed_there", none), "deed_there", "deed_there", defArgs s_deed_there, defBody s_deed_there, defScope s_deed_there, [], []⟩
def d_may_step : He.DefD := ⟨("may_step", none), "may_step", "may_step", defArgs s_may_step, defBody s_may_step, defScope s_may_step, [], []⟩
def d_boxes_behind : He.DefD := ⟨("boxes_behind", none), "boxes_behind", "boxes_behind", defArgs s_boxes_behind, defBody s_boxes_behind, defScope s_boxes_behind, [], []⟩
def d_reading : He.DefD := ⟨("reading", none), "reading", "reading", defArgs s_reading, defBody s_reading, defScope s_reading, [], []⟩
def d_with_state : He.DefD := ⟨("with_state", none), "with_state", "with_state", defArgs s_with_state, defBody s_with_state, defScope s_with_state, [], []⟩
def d_since_begin : He.DefD := ⟨("since_begin", none), "since_begin", "since_begin", defArgs s_since_begin, defBody s_since_begin, defScope s_since_begin, [], []⟩
def d_own_row : He.DefD := ⟨("own_row", none), "own_row", "own_row", defArgs s_own_row, defBody s_own_row, defScope s_own_row, [], []⟩
def d_stepped_end : He.DefD := ⟨("stepped_end", none), "stepped_end", "stepped_end", defArgs s_stepped_end, defBody s_stepped_end, defScope s_stepped_end, [], []⟩
def d_stepped : He.DefD := ⟨("stepped", none), "stepped", "stepped", defArgs s_stepped, defBody s_stepped, defScope s_stepped, [], []⟩
def d_followed : He.DefD := ⟨("followed", none), "followed", "followed", defArgs s_followed, defBody s_followed, defScope s_followed, [], []⟩
def d_story : He.DefD := ⟨("story", none), "story", "story", defArgs s_story, defBody s_story, defScope s_story, [], []⟩
def d_law_hand : He.DefD := ⟨("_law_hand", none), "_law_hand", "_law_hand", defArgs s_law_hand, defBody s_law_hand, defScope s_law_hand, [], []⟩
def d_law_take : He.DefD := ⟨("_law_take", none), "_law_take", "_law_take", defArgs s_law_take, defBody s_law_take, defScope s_law_take, [], []⟩
def d_law_pick : He.DefD := ⟨("_law_pick", none), "_law_pick", "_law_pick", defArgs s_law_pick, defBody s_law_pick, defScope s_law_pick, [], []⟩
def d_law_right_manner : He.DefD := ⟨("_law_right_manner", none), "_law_right_manner", "_law_right_manner", defArgs s_law_right_manner, defBody s_law_right_manner, defScope s_law_right_manner, [], []⟩
def d_law_woven : He.DefD := ⟨("_law_woven", none), "_law_woven", "_law_woven", defArgs s_law_woven, defBody s_law_woven, defScope s_law_woven, [], []⟩
def d_law_total : He.DefD := ⟨("_law_total", none), "_law_total", "_law_total", defArgs s_law_total, defBody s_law_total, defScope s_law_total, [], []⟩
def d_law : He.DefD := ⟨("law", none), "law", "law", defArgs s_law, defBody s_law, defScope s_law, [], []⟩
def fn1 : List He.DefD := [d_Sums_init, d_Sums_deed, d_Sums_answer, d_hands_of, d_places_of, d_shakes_of, d_at_job, d_next_deed, d_answer_of, d_deeds_done, d_ahead_of, d_last_collects, d_changed_at, d_seen_often, d_others, d_number_behind, d_values_of, d_own_read, d_next_once, d_look_twice, d_next_twice, d_all_moved, d_look_handed, d_next_handed, d_round_length_signs, d_shake_step, d_moved_in_signs, d_look_signs]
def fn2 : List He.DefD := [d_calls_of, d_next_signs, d_next_step, d_zeros, d_between, d_first_own, d_first_boxes, d_first_row, d_begun, d_state_of, d_deed_there, d_may_step, d_boxes_behind, d_reading, d_with_state, d_since_begin, d_own_row, d_stepped_end, d_stepped, d_followed, d_story, d_law_hand, d_law_take, d_law_pick, d_law_right_manner, d_law_woven, d_law_total, d_law]
def fn : List He.DefD := fn1 ++ fn2
def fa1 : List He.Fa := [.glo "hands_of", .glo "places_of", .glo "shakes_of", .glo "at_job", .glo "next_deed", .glo "answer_of", .glo "deeds_done", .glo "ahead_of", .glo "last_collects", .glo "changed_at", .glo "seen_often", .glo "others", .glo "number_behind", .glo "values_of", .glo "own_read", .glo "next_once", .glo "look_twice", .glo "next_twice", .glo "all_moved", .glo "look_handed", .glo "next_handed", .glo "round_length_signs", .glo "shake_step", .glo "moved_in_signs", .glo "look_signs", .glo "calls_of", .glo "next_signs", .glo "next_step"]
def fa2 : List He.Fa := [.glo "zeros", .glo "between", .glo "first_own", .glo "first_boxes", .glo "first_row", .glo "begun", .glo "state_of", .glo "deed_there", .glo "may_step", .glo "boxes_behind", .glo "reading", .glo "with_state", .glo "since_begin", .glo "own_row", .glo "stepped_end", .glo "stepped", .glo "followed", .glo "story", .glo "_law_hand", .glo "_law_take", .glo "_law_pick", .glo "_law_right_manner", .glo "_law_woven", .glo "_law_total", .glo "law", .glo "LOOK"]
def fa3 : List He.Fa := [.free "len", .free "range", .free "tuple", .free "sum", .free "dict", .free "sorted", .free "set", .free "list", .free "min", .free "any", .free "enumerate", .free "zip", .free "int", .glo "Sums", .cls "Sums", .noat "Sums" "own", .noat "Sums" "said", .noat "Sums" "told", .meth "Sums" "deed", .meth "Sums" "answer", .mkr "Sums"]
def fa : List He.Fa := fa1 ++ fa2 ++ fa3
def lo1 : List PySem.Str := ["hands_of", "places_of", "shakes_of", "LOOK", "Job", "Deeds", "Sums", "Name", "Least", "less", "halfway", "Closer", "at_job", "next_deed", "answer_of", "deeds_done", "ahead_of", "last_collects", "changed_at", "seen_often", "others", "number_behind", "values_of", "own_read", "next_once", "look_twice", "next_twice", "all_moved", "look_handed", "next_handed"]
def lo2 : List PySem.Str := ["round_length", "round_length_shared", "round_step", "has_written", "collects_in", "moved_in", "moved_in_shared", "mover_behind", "look_shared", "put_ahead", "next_shared", "round_length_signs", "shake_step", "moved_in_signs", "look_signs", "calls_of", "next_signs", "row_behind", "table_of", "step_at", "next_by_table", "next_step", "zeros", "between", "first_own", "first_boxes", "GlanceError", "NoStep", "first_row", "begun"]
def lo3 : List PySem.Str := ["state_of", "deed_there", "may_step", "boxes_behind", "reading", "with_state", "since_begin", "own_row", "stepped_end", "stepped", "followed", "story", "_law_hand", "_law_take", "_law_pick", "_law_right_manner", "_law_woven", "_law_total"]
def loose : List PySem.Str := lo1 ++ lo2 ++ lo3
abbrev Rw : PySem.W.OpenRow := PySem.W.OpenLaw.row PySem.Challenge.rw_wholeglance_k98_whole_sums
def obsK (K : PySem.W.Frag) : He.AlD × Bool := (He.obsD fa fn K, He.tupB K "LOOK" [.str "look"])
def SaysK (K : PySem.W.Frag) : Prop := obsK K = (He.valD fn, true)
/-- where they stand: the module's names, the defs, their codes, LOOK, the class, what it stands on -/
def ad1 : List Addr := [3, 50, 100, 105, 21, 28, 35, 240, 247, 254, 259, 266, 273, 278, 283, 288, 295, 300, 307, 314, 321, 328, 335, 342, 349, 417, 424, 431]
def ad2 : List Addr := [436, 443, 450, 485, 492, 497, 504, 509, 548, 553, 558, 565, 570, 575, 582, 589, 596, 603, 608, 615, 622, 629, 636, 643, 650, 657, 662, 669, 674]
def ad3 : List Addr := [49, 99, 104, 20, 27, 34, 239, 246, 253, 258, 265, 272, 277, 282, 287, 294, 299, 306, 313, 320, 327, 334, 341, 348, 416, 423, 430, 435, 442, 449]
def ad4 : List Addr := [484, 491, 496, 503, 508, 547, 552, 557, 564, 569, 574, 581, 588, 595, 602, 607, 614, 621, 628, 635, 642, 649, 656, 661, 668, 673, 36, 108, 107, 58, 57]
def ads : List Addr := ad1 ++ ad2 ++ ad3 ++ ad4
def hk : PySem.W.Hook where
  α := He.AlD × Bool
  obs := fun s => obsK (He.frG s.heap.get? ads)
  val := fun _ => (He.valD fn, true)
  says := fun _ h => ∃ K : PySem.W.Frag, K.In h ∧ SaysK K
  of := fun _ _ e => ⟨_, He.frG_in, e⟩
  keeps := fun _ _ _ ⟨K, hK, c⟩ k => ⟨K, PySem.W.Frag.In.keeps hK k, c⟩
def ob (s : PySem.W.SharedT) : He.AlD × Bool := obsK (He.frG (HandSHeadRun.getT s) ads)
theorem ob_eq (s : PySem.W.SharedT) : ob s = hk.obs s.abs := by
  have e : HandSHeadRun.getT s = s.abs.heap.get? := funext (HandSHeadRun.getT_eq s)
  unfold ob
  rw [e] <;> rfl
theorem run (w : World) : HandSHeadRun.RunEq Rw (PySem.W.view Rw.prog [93]) hk ob 6000 loose w := by
  intro os
  kernel_rfl
end K98

/-! ## Hand0 -/
/-! What the jobs of sums do, over data. -/
namespace K98
open PySem PySem.Spec PyProof.Rows L2
/-- the sum of the ints -/
def sumD : List D → Option Int
  | [] => some 0
  | .non :: r => sumD r
  | .int i :: r => (sumD r).map fun s => i + s
  | _ => none
def deedD (h : Int) (items told : List D) : Option D :=
  if told.length = items.length then some .non else (items[told.length]?).bind fun d => match d with
    | .non => some (.tk [.str "look"])
    | _ => (sumD (items.take (told.length + 1))).map fun s => .tup [.str "put", .int h, .int s]
def F_next_deed : List Vl → Option Rt := fun as => match as with
  | [.d (.int h), .d (.tup [.str w, .tup items]), .d (.tup told)] => if w = "sums" ∧ told.length ≤ items.length ∧ items.length ≤ 1000 then (deedD h items told).map .d else none
  | _ => none
end K98

/-! ## DefsC -/
namespace K98
open PySem PySem.Spec PyProof.Rows L2

/-! ### Sums_deed -/
def N_Sums_deed : List PySem.Str := ["self", "many", "items", "item"]
theorem sc_Sums_deed : FnScope N_Sums_deed ["self"] (defScope s_Sums_deed) := ⟨rfl, rfl, rfl, by decide +kernel, rfl, by decide +kernel, by decide +kernel⟩
def b_Sums_deed (C : Addr) : List Vl → Option Out := (sSeq (sAsg 1 (eB1 gLen (aCons (eFld C "told" (eVar 0)) aNil))) (sSeq (sAsg 2 (eIx (eFld C "said" (eVar 0)) (eD (.int 1)))) (sSeq (sIf (cEq (eVar 1) (eB1 gLen (aCons (eVar 2) aNil))) (sRet (eD .non)) sNil) (sSeq (sIf (cIsN (eIx (eVar 2) (eVar 1)) (eD .non)) (sRet (eD (.tk [.str "look"]))) sNil) (sRet (eTup (aCons (eD (.str "put")) (aCons (eFld C "own" (eVar 0)) (aCons (eB1 gSum (aCons (eLc (sTup (eSl (eVar 2) oNone (oSome (eAdd (eVar 1) (eD (.int 1)))))) (gN 3) (cNotN (eVar 3) (eD .non)) (eVar 3) [3]) aNil)) aNil)))))))))
def F_Sums_deed (C : Addr) : List Vl → Option Rt := fnD 1 3 (b_Sums_deed C)
theorem ok_Sums_deed {P : Program} {w : World} {K : PySem.W.Frag} {mg : PySem.Str → Option Value} {base : Heap} (T : Top K mg) {C : Addr} (S : SumsC K mg C) : Mt P w K mg base 1 C "deed" (F_Sums_deed C) := by
  obtain ⟨pL, hL1, hL2⟩ := T.look
  obtain ⟨ft, fd, hm, FD⟩ := S.deed
  refine ⟨ft, fd, ["self"], S.cls, hm, def_ok (k := 0) (f := b_Sums_deed C) FD sc_Sums_deed rfl fun cdv A outer s H E hr => ?_, FD.bindsN fun _ _ _ _ _ _ us hl => match us, hl with | [_], _ => rfl⟩
  have hu : (A.deeper (envOfC "Sums.deed" (defScope s_Sums_deed) s.heap.objs.size ft cdv)).units + 100 < cLine := by have := hr.un; omega
  exact (ss_cons (s_set (i := 1) sc_Sums_deed.nd (d_len rfl rfl T.b_len (a_cons (d_fld rfl S.cls S.n_told (d_var 0)) a_nil)))
    (ss_cons (s_set (i := 2) sc_Sums_deed.nd (d_ix rfl (d_fld rfl S.cls S.n_said (d_var 0)) d_int))
    (ss_cons (s_if (ct_eq rfl hu (d_var 1) (d_len rfl rfl T.b_len (a_cons (d_var 2) a_nil))) (ss_one (s_ret d_non)) ss_nil)
    (ss_cons (s_if (ct_isN (d_ix rfl (d_var 2) (d_var 1)) d_non) (ss_one (s_ret (d_glob rfl hL1 hL2))) ss_nil)
    (ss_one (s_ret (d_tup (a_cons d_str (a_cons (d_fld rfl S.cls S.n_own (d_var 0)) (a_cons (d_sum rfl rfl rfl T.b_sum (a_cons (d_lc rfl sc_Sums_deed.nd (i_tup rfl (d_slice rfl (d_var 2) o_none (o_some (d_add (d_var 1) d_int)))) (blkOk_by (own := [("item", 3)]) rfl) rfl (ow := false) (idx := [3]) (by decide) (fun _ _ _ _ _ => (g_name (i := 3) sc_Sums_deed.nd)) (fun _ _ _ _ _ => (ts_one (ct_notN (d_var 3) d_non))) (fun _ _ _ _ _ => (d_var 3))) a_nil)) a_nil))))))))))
/-! ### Sums_answer -/
def N_Sums_answer : List PySem.Str := ["self", "seen"]
theorem sc_Sums_answer : FnScope N_Sums_answer ["self"] (defScope s_Sums_answer) := ⟨rfl, rfl, rfl, by decide +kernel, rfl, by decide +kernel, by decide +kernel⟩
def b_Sums_answer (C : Addr) : List Vl → Option Out := (sRet (eB1 gTupL (aCons (eLc (sTup (eFld C "told" (eVar 0))) (gN 1) (cNotN (eVar 1) (eD .non)) (eB1 gSum (aCons (eVar 1) aNil)) [1]) aNil)))
def F_Sums_answer (C : Addr) : List Vl → Option Rt := fnD 1 1 (b_Sums_answer C)
theorem ok_Sums_answer {P : Program} {w : World} {K : PySem.W.Frag} {mg : PySem.Str → Option Value} {base : Heap} (T : Top K mg) {C : Addr} (S : SumsC K mg C) : Mt P w K mg base 1 C "answer" (F_Sums_answer C) := by
  obtain ⟨ft, fd, hm, FD⟩ := S.answer
  refine ⟨ft, fd, ["self"], S.cls, hm, def_ok (k := 0) (f := b_Sums_answer C) FD sc_Sums_answer rfl fun cdv A outer s H E hr => ?_, FD.bindsN fun _ _ _ _ _ _ us hl => match us, hl with | [_], _ => rfl⟩
  have hu : (A.deeper (envOfC "Sums.answer" (defScope s_Sums_answer) s.heap.objs.size ft cdv)).units + 100 < cLine := by have := hr.un; omega
  exact (ss_one (s_ret (d_tupL rfl rfl T.b_tuple (a_cons (d_lc rfl sc_Sums_answer.nd (i_tup rfl (d_fld rfl S.cls S.n_told (d_var 0))) (blkOk_by (own := [("seen", 1)]) rfl) rfl (ow := false) (idx := [1]) (by decide) (fun _ _ _ _ _ => (g_name (i := 1) sc_Sums_answer.nd)) (fun _ _ _ _ _ => (ts_one (ct_notN (d_var 1) d_non))) (fun _ _ _ _ _ => (d_sum rfl rfl rfl T.b_sum (a_cons (d_var 1) a_nil)))) a_nil))))
/-! ### at_job -/
def N_at_job : List PySem.Str := ["hand", "job", "told"]
theorem sc_at_job : FnScope N_at_job ["hand", "job", "told"] (defScope s_at_job) := ⟨rfl, rfl, rfl, by decide +kernel, rfl, by decide +kernel, by decide +kernel⟩
def b_at_job (C : Addr) : List Vl → Option Out := (sSeq (sIf (cEq (eIx (eVar 1) (eD (.int 0))) (eD (.str "deeds"))) sNo sNil) (sSeq (sIf (cEq (eIx (eVar 1) (eD (.int 0))) (eD (.str "sums"))) (sRet (eMake C "own" "said" "told" (aCons (eVar 0) (aCons (eVar 1) (aCons (eVar 2) aNil))))) sNil) (sSeq (sIf (cEq (eIx (eVar 1) (eD (.int 0))) (eD (.str "name"))) sNo sNil) (sSeq (sIf (cEq (eIx (eVar 1) (eD (.int 0))) (eD (.str "least"))) sNo sNil) sNo))))
def F_at_job (C : Addr) : List Vl → Option Rt := fnD 3 0 (b_at_job C)
theorem ok_at_job {P : Program} {w : World} {K : PySem.W.Frag} {mg : PySem.Str → Option Value} {base : Heap} (T : Top K mg) {C : Addr} (S : SumsC K mg C) (c_Sums_init : Mkr P w K mg base 1 "Sums" C "own" "said" "told") : Fn P w K mg base 3 "at_job" 3 (F_at_job C) := by
  obtain ⟨ft, fd, FD, hm⟩ := T.at_job
  refine ⟨ft, fd, ["hand", "job", "told"], def_ok (k := 2) (f := b_at_job C) FD sc_at_job rfl fun cdv A outer s H E hr => ?_, hm, FD.kp, FD.bindsN fun _ _ _ _ _ _ us hl => match us, hl with | [_, _, _], _ => rfl⟩
  have hu : (A.deeper (envOfC "at_job" (defScope s_at_job) s.heap.objs.size ft cdv)).units + 100 < cLine := by have := hr.un; omega
  exact (ss_cons (s_if (ct_eq rfl hu (d_ix rfl (d_var 1) d_int) d_str) ss_never ss_nil)
    (ss_cons (s_if (ct_eq rfl hu (d_ix rfl (d_var 1) d_int) d_str) (ss_one (s_ret (d_make c_Sums_init rfl hr (by decide) rfl (a_cons (d_var 0) (a_cons (d_var 1) (a_cons (d_var 2) a_nil)))))) ss_nil)
    (ss_cons (s_if (ct_eq rfl hu (d_ix rfl (d_var 1) d_int) d_str) ss_never ss_nil)
    (ss_cons (s_if (ct_eq rfl hu (d_ix rfl (d_var 1) d_int) d_str) ss_never ss_nil)
    (ss_one s_never)))))
/-! ### next_deed -/
def N_next_deed : List PySem.Str := ["hand", "job", "told"]
theorem sc_next_deed : FnScope N_next_deed ["hand", "job", "told"] (defScope s_next_deed) := ⟨rfl, rfl, rfl, by decide +kernel, rfl, by decide +kernel, by decide +kernel⟩
def b_next_deedC (C : Addr) : List Vl → Option Out := (sRet (eMth C "deed" (F_Sums_deed C) (eCall 3 (F_at_job C) (aCons (eVar 0) (aCons (eVar 1) (aCons (eVar 2) aNil))))))
def F_next_deedC (C : Addr) : List Vl → Option Rt := fnD 3 0 (b_next_deedC C)
theorem ok_next_deedC {P : Program} {w : World} {K : PySem.W.Frag} {mg : PySem.Str → Option Value} {base : Heap} (T : Top K mg) {C : Addr} (S : SumsC K mg C) (c_Sums_deed : Mt P w K mg base 1 C "deed" (F_Sums_deed C)) (c_at_job : Fn P w K mg base 3 "at_job" 3 (F_at_job C)) : Fn P w K mg base 4 "next_deed" 3 (F_next_deedC C) := by
  obtain ⟨ft, fd, FD, hm⟩ := T.next_deed
  refine ⟨ft, fd, ["hand", "job", "told"], def_ok (k := 3) (f := b_next_deedC C) FD sc_next_deed rfl fun cdv A outer s H E hr => ?_, hm, FD.kp, FD.bindsN fun _ _ _ _ _ _ us hl => match us, hl with | [_, _, _], _ => rfl⟩
  have hu : (A.deeper (envOfC "next_deed" (defScope s_next_deed) s.heap.objs.size ft cdv)).units + 100 < cLine := by have := hr.un; omega
  exact (ss_one (s_ret (d_mth c_Sums_deed rfl hr (by decide) (d_call c_at_job rfl hr (by decide) rfl (a_cons (d_var 0) (a_cons (d_var 1) (a_cons (d_var 2) a_nil)))))))
/-! ### answer_of -/
def N_answer_of : List PySem.Str := ["hand", "job", "told", "here"]
theorem sc_answer_of : FnScope N_answer_of ["hand", "job", "told"] (defScope s_answer_of) := ⟨rfl, rfl, rfl, by decide +kernel, rfl, by decide +kernel, by decide +kernel⟩
def b_answer_ofC (C : Addr) : List Vl → Option Out := (sSeq (sAsg 3 (eCall 3 (F_at_job C) (aCons (eVar 0) (aCons (eVar 1) (aCons (eVar 2) aNil))))) (sSeq (sIf (cNotN (eMth C "deed" (F_Sums_deed C) (eVar 3)) (eD .non)) (sRet (eD .non)) sNil) (sRet (eMth C "answer" (F_Sums_answer C) (eVar 3)))))
def F_answer_ofC (C : Addr) : List Vl → Option Rt := fnD 3 1 (b_answer_ofC C)
theorem ok_answer_ofC {P : Program} {w : World} {K : PySem.W.Frag} {mg : PySem.Str → Option Value} {base : Heap} (T : Top K mg) {C : Addr} (S : SumsC K mg C) (c_Sums_answer : Mt P w K mg base 1 C "answer" (F_Sums_answer C)) (c_Sums_deed : Mt P w K mg base 1 C "deed" (F_Sums_deed C)) (c_at_job : Fn P w K mg base 3 "at_job" 3 (F_at_job C)) : Fn P w K mg base 4 "answer_of" 3 (F_answer_ofC C) := by
  obtain ⟨ft, fd, FD, hm⟩ := T.answer_of
  refine ⟨ft, fd, ["hand", "job", "told"], def_ok (k := 3) (f := b_answer_ofC C) FD sc_answer_of rfl fun cdv A outer s H E hr => ?_, hm, FD.kp, FD.bindsN fun _ _ _ _ _ _ us hl => match us, hl with | [_, _, _], _ => rfl⟩
  have hu : (A.deeper (envOfC "answer_of" (defScope s_answer_of) s.heap.objs.size ft cdv)).units + 100 < cLine := by have := hr.un; omega
  exact (ss_cons (s_set (i := 3) sc_answer_of.nd (d_call c_at_job rfl hr (by decide) rfl (a_cons (d_var 0) (a_cons (d_var 1) (a_cons (d_var 2) a_nil)))))
    (ss_cons (s_if (ct_notN (d_mth c_Sums_deed rfl hr (by decide) (d_var 3)) d_non) (ss_one (s_ret d_non)) ss_nil)
    (ss_one (s_ret (d_mth c_Sums_answer rfl hr (by decide) (d_var 3))))))
end K98

/-! ## Defs -/
namespace K98
open PySem PySem.Spec PyProof.Rows L2

/-! ### hands_of -/
def N_hands_of : List PySem.Str := ["manner"]
theorem sc_hands_of : FnScope N_hands_of ["manner"] (defScope s_hands_of) := ⟨rfl, rfl, rfl, by decide +kernel, rfl, by decide +kernel, by decide +kernel⟩
def b_hands_of : List Vl → Option Out := (sRet (eIx (eVar 0) (eD (.int 1))))
def F_hands_of : List Vl → Option Rt := fnD 1 0 (b_hands_of)
theorem ok_hands_of {P : Program} {w : World} {K : PySem.W.Frag} {mg : PySem.Str → Option Value} {base : Heap} (T : Top K mg) : Fn P w K mg base 1 "hands_of" 1 F_hands_of := by
  obtain ⟨ft, fd, FD, hm⟩ := T.hands_of
  refine ⟨ft, fd, ["manner"], def_ok (k := 0) (f := b_hands_of) FD sc_hands_of rfl fun cdv A outer s H E hr => ?_, hm, FD.kp, FD.bindsN fun _ _ _ _ _ _ us hl => match us, hl with | [_], _ => rfl⟩
  have hu : (A.deeper (envOfC "hands_of" (defScope s_hands_of) s.heap.objs.size ft cdv)).units + 100 < cLine := by have := hr.un; omega
  exact (ss_one (s_ret (d_ix rfl (d_var 0) d_int)))
/-! ### places_of -/
def N_places_of : List PySem.Str := ["manner"]
theorem sc_places_of : FnScope N_places_of ["manner"] (defScope s_places_of) := ⟨rfl, rfl, rfl, by decide +kernel, rfl, by decide +kernel, by decide +kernel⟩
def b_places_of : List Vl → Option Out := (sSeq (sIf (cEq (eIx (eVar 0) (eD (.int 0))) (eD (.str "shared"))) (sRet (eIx (eVar 0) (eD (.int 2)))) sNil) (sRet (eIx (eVar 0) (eD (.int 1)))))
def F_places_of : List Vl → Option Rt := fnD 1 0 (b_places_of)
theorem ok_places_of {P : Program} {w : World} {K : PySem.W.Frag} {mg : PySem.Str → Option Value} {base : Heap} (T : Top K mg) : Fn P w K mg base 1 "places_of" 1 F_places_of := by
  obtain ⟨ft, fd, FD, hm⟩ := T.places_of
  refine ⟨ft, fd, ["manner"], def_ok (k := 0) (f := b_places_of) FD sc_places_of rfl fun cdv A outer s H E hr => ?_, hm, FD.kp, FD.bindsN fun _ _ _ _ _ _ us hl => match us, hl with | [_], _ => rfl⟩
  have hu : (A.deeper (envOfC "places_of" (defScope s_places_of) s.heap.objs.size ft cdv)).units + 100 < cLine := by have := hr.un; omega
  exact (ss_cons (s_if (ct_eq rfl hu (d_ix rfl (d_var 0) d_int) d_str) (ss_one (s_ret (d_ix rfl (d_var 0) d_int))) ss_nil)
    (ss_one (s_ret (d_ix rfl (d_var 0) d_int))))
/-! ### shakes_of -/
def N_shakes_of : List PySem.Str := ["manner"]
theorem sc_shakes_of : FnScope N_shakes_of ["manner"] (defScope s_shakes_of) := ⟨rfl, rfl, rfl, by decide +kernel, rfl, by decide +kernel, by decide +kernel⟩
def b_shakes_of : List Vl → Option Out := (sRet (eIx (eVar 0) (eNeg (eD (.int 2)))))
def F_shakes_of : List Vl → Option Rt := fnD 1 0 (b_shakes_of)
theorem ok_shakes_of {P : Program} {w : World} {K : PySem.W.Frag} {mg : PySem.Str → Option Value} {base : Heap} (T : Top K mg) : Fn P w K mg base 1 "shakes_of" 1 F_shakes_of := by
  obtain ⟨ft, fd, FD, hm⟩ := T.shakes_of
  refine ⟨ft, fd, ["manner"], def_ok (k := 0) (f := b_shakes_of) FD sc_shakes_of rfl fun cdv A outer s H E hr => ?_, hm, FD.kp, FD.bindsN fun _ _ _ _ _ _ us hl => match us, hl with | [_], _ => rfl⟩
  have hu : (A.deeper (envOfC "shakes_of" (defScope s_shakes_of) s.heap.objs.size ft cdv)).units + 100 < cLine := by have := hr.un; omega
  exact (ss_one (s_ret (d_ix rfl (d_var 0) (d_neg d_int))))
/-! ### deeds_done -/
def N_deeds_done : List PySem.Str := ["hand", "job", "told", "k"]
theorem sc_deeds_done : FnScope N_deeds_done ["hand", "job", "told"] (defScope s_deeds_done) := ⟨rfl, rfl, rfl, by decide +kernel, rfl, by decide +kernel, by decide +kernel⟩
def b_deeds_done : List Vl → Option Out := (sRet (eLc (sRng1 (aCons (eB1 gLen (aCons (eVar 2) aNil)) aNil)) (gN 3) cYes (eCall 3 F_next_deed (aCons (eVar 0) (aCons (eVar 1) (aCons (eSl (eVar 2) oNone (oSome (eVar 3))) aNil)))) [3]))
def F_deeds_done : List Vl → Option Rt := fnD 3 1 (b_deeds_done)
theorem ok_deeds_done {P : Program} {w : World} {K : PySem.W.Frag} {mg : PySem.Str → Option Value} {base : Heap} (T : Top K mg) (c_next_deed : Fn P w K mg base 4 "next_deed" 3 F_next_deed) : Fn P w K mg base 5 "deeds_done" 3 F_deeds_done := by
  obtain ⟨ft, fd, FD, hm⟩ := T.deeds_done
  refine ⟨ft, fd, ["hand", "job", "told"], def_ok (k := 4) (f := b_deeds_done) FD sc_deeds_done rfl fun cdv A outer s H E hr => ?_, hm, FD.kp, FD.bindsN fun _ _ _ _ _ _ us hl => match us, hl with | [_, _, _], _ => rfl⟩
  have hu : (A.deeper (envOfC "deeds_done" (defScope s_deeds_done) s.heap.objs.size ft cdv)).units + 100 < cLine := by have := hr.un; omega
  exact (ss_one (s_ret (d_lc rfl sc_deeds_done.nd (i_rng1 rfl T.b_range (a_cons (d_len rfl rfl T.b_len (a_cons (d_var 2) a_nil)) a_nil)) (blkOk_by (own := [("k", 3)]) rfl) rfl (ow := false) (idx := [3]) (by decide) (fun _ _ _ _ _ => (g_name (i := 3) sc_deeds_done.nd)) (fun _ _ _ _ _ => ts_nil) (fun _ _ _ _ _ => (d_call c_next_deed rfl hr (by decide) rfl (a_cons (d_var 0) (a_cons (d_var 1) (a_cons (d_slice rfl (d_var 2) o_none (o_some (d_var 3))) a_nil))))))))
/-! ### ahead_of -/
def N_ahead_of : List PySem.Str := ["manner", "hand", "job", "told", "many", "deed"]
theorem sc_ahead_of : FnScope N_ahead_of ["manner", "hand", "job", "told"] (defScope s_ahead_of) := ⟨rfl, rfl, rfl, by decide +kernel, rfl, by decide +kernel, by decide +kernel⟩
def b_ahead_of : List Vl → Option Out := (sSeq (sAsg 4 (eRep (eLst (aCons (eD (.int 0)) aNil)) (eCall 1 F_places_of (aCons (eVar 0) aNil)))) (sSeq (sFor (sOwn (eCall 3 F_deeds_done (aCons (eVar 1) (aCons (eVar 2) (aCons (eVar 3) aNil))))) (gN 5) (sIf (cEq (eIx (eVar 5) (eD (.int 0))) (eD (.str "put"))) (sInc 4 (eIx (eVar 5) (eD (.int 1))) (eD (.int 1))) sNil)) (sRet (eB1 gTupL (aCons (eVar 4) aNil)))))
def F_ahead_of : List Vl → Option Rt := fnD 4 2 (b_ahead_of)
theorem ok_ahead_of {P : Program} {w : World} {K : PySem.W.Frag} {mg : PySem.Str → Option Value} {base : Heap} (T : Top K mg) (c_deeds_done : Fn P w K mg base 5 "deeds_done" 3 F_deeds_done) (c_places_of : Fn P w K mg base 1 "places_of" 1 F_places_of) : Fn P w K mg base 6 "ahead_of" 4 F_ahead_of := by
  obtain ⟨ft, fd, FD, hm⟩ := T.ahead_of
  refine ⟨ft, fd, ["manner", "hand", "job", "told"], def_ok (k := 5) (f := b_ahead_of) FD sc_ahead_of rfl fun cdv A outer s H E hr => ?_, hm, FD.kp, FD.bindsN fun _ _ _ _ _ _ us hl => match us, hl with | [_, _, _, _], _ => rfl⟩
  have hu : (A.deeper (envOfC "ahead_of" (defScope s_ahead_of) s.heap.objs.size ft cdv)).units + 100 < cLine := by have := hr.un; omega
  exact (ss_cons (s_set (i := 4) sc_ahead_of.nd (d_rep (d_lst (a_cons d_int a_nil)) (d_call c_places_of rfl hr (by decide) rfl (a_cons (d_var 0) a_nil))))
    (ss_cons (s_for PassesOwn.never rfl (i_own rfl (d_call c_deeds_done rfl hr (by decide) rfl (a_cons (d_var 1) (a_cons (d_var 2) (a_cons (d_var 3) a_nil))))) (g_name (i := 5) sc_ahead_of.nd) (ss_one (s_if (ct_eq rfl hu (d_ix rfl (d_var 5) d_int) d_str) (ss_one (s_inc (i := 4) rfl (d_ix rfl (d_var 5) d_int) d_int)) ss_nil)))
    (ss_one (s_ret (d_tupL rfl rfl T.b_tuple (a_cons (d_var 4) a_nil))))))
/-! ### last_collects -/
def N_last_collects : List PySem.Str := ["reads", "many"]
theorem sc_last_collects : FnScope N_last_collects ["reads", "many"] (defScope s_last_collects) := ⟨rfl, rfl, rfl, by decide +kernel, rfl, by decide +kernel, by decide +kernel⟩
def b_last_collects : List Vl → Option Out := (sRet (eTup (aCons (eSl (eVar 0) (oSome (eMul (eNeg (eD (.int 2))) (eVar 1))) (oSome (eNeg (eVar 1)))) (aCons (eSl (eVar 0) (oSome (eNeg (eVar 1))) oNone) aNil))))
def F_last_collects : List Vl → Option Rt := fnD 2 0 (b_last_collects)
theorem ok_last_collects {P : Program} {w : World} {K : PySem.W.Frag} {mg : PySem.Str → Option Value} {base : Heap} (T : Top K mg) : Fn P w K mg base 1 "last_collects" 2 F_last_collects := by
  obtain ⟨ft, fd, FD, hm⟩ := T.last_collects
  refine ⟨ft, fd, ["reads", "many"], def_ok (k := 0) (f := b_last_collects) FD sc_last_collects rfl fun cdv A outer s H E hr => ?_, hm, FD.kp, FD.bindsN fun _ _ _ _ _ _ us hl => match us, hl with | [_, _], _ => rfl⟩
  have hu : (A.deeper (envOfC "last_collects" (defScope s_last_collects) s.heap.objs.size ft cdv)).units + 100 < cLine := by have := hr.un; omega
  exact (ss_one (s_ret (d_tup (a_cons (d_slice rfl (d_var 0) (o_some (d_mul (d_neg d_int) (d_var 1))) (o_some (d_neg (d_var 1)))) (a_cons (d_slice rfl (d_var 0) (o_some (d_neg (d_var 1))) o_none) a_nil)))))
/-! ### changed_at -/
def N_changed_at : List PySem.Str := ["one", "other", "at", "j"]
theorem sc_changed_at : FnScope N_changed_at ["one", "other", "at"] (defScope s_changed_at) := ⟨rfl, rfl, rfl, by decide +kernel, rfl, by decide +kernel, by decide +kernel⟩
def b_changed_at : List Vl → Option Out := (sRet (eLc (sRng1 (aCons (eB1 gLen (aCons (eVar 0) aNil)) aNil)) (gN 3) (cNe (eIx (eIx (eVar 0) (eVar 3)) (eVar 2)) (eIx (eIx (eVar 1) (eVar 3)) (eVar 2))) (eVar 3) [3]))
def F_changed_at : List Vl → Option Rt := fnD 3 1 (b_changed_at)
theorem ok_changed_at {P : Program} {w : World} {K : PySem.W.Frag} {mg : PySem.Str → Option Value} {base : Heap} (T : Top K mg) : Fn P w K mg base 1 "changed_at" 3 F_changed_at := by
  obtain ⟨ft, fd, FD, hm⟩ := T.changed_at
  refine ⟨ft, fd, ["one", "other", "at"], def_ok (k := 0) (f := b_changed_at) FD sc_changed_at rfl fun cdv A outer s H E hr => ?_, hm, FD.kp, FD.bindsN fun _ _ _ _ _ _ us hl => match us, hl with | [_, _, _], _ => rfl⟩
  have hu : (A.deeper (envOfC "changed_at" (defScope s_changed_at) s.heap.objs.size ft cdv)).units + 100 < cLine := by have := hr.un; omega
  exact (ss_one (s_ret (d_lc rfl sc_changed_at.nd (i_rng1 rfl T.b_range (a_cons (d_len rfl rfl T.b_len (a_cons (d_var 0) a_nil)) a_nil)) (blkOk_by (own := [("j", 3)]) rfl) rfl (ow := false) (idx := [3]) (by decide) (fun _ _ _ _ _ => (g_name (i := 3) sc_changed_at.nd)) (fun _ _ _ _ _ => (ts_one (ct_ne rfl hu (d_ix rfl (d_ix rfl (d_var 0) (d_var 3)) (d_var 2)) (d_ix rfl (d_ix rfl (d_var 1) (d_var 3)) (d_var 2))))) (fun _ _ _ _ _ => (d_var 3)))))
/-! ### seen_often -/
def N_seen_often : List PySem.Str := ["seen", "moves", "often", "j"]
theorem sc_seen_often : FnScope N_seen_often ["seen", "moves"] (defScope s_seen_often) := ⟨rfl, rfl, rfl, by decide +kernel, rfl, by decide +kernel, by decide +kernel⟩
def b_seen_often : List Vl → Option Out := (sSeq (sAsg 2 (eLc (sLst (eSortSet (aCons (eVar 0) aNil))) (gN 3) (cGe (eCount (eVar 0) (eVar 3)) (eVar 1)) (eVar 3) [3])) (sSeq (sIf (cEq (eB1 gLen (aCons (eVar 2) aNil)) (eD (.int 0))) (sRet (eD .non)) sNil) (sRet (eIx (eVar 2) (eD (.int 0))))))
def F_seen_often : List Vl → Option Rt := fnD 2 2 (b_seen_often)
theorem ok_seen_often {P : Program} {w : World} {K : PySem.W.Frag} {mg : PySem.Str → Option Value} {base : Heap} (T : Top K mg) : Fn P w K mg base 1 "seen_often" 2 F_seen_often := by
  obtain ⟨ft, fd, FD, hm⟩ := T.seen_often
  refine ⟨ft, fd, ["seen", "moves"], def_ok (k := 0) (f := b_seen_often) FD sc_seen_often rfl fun cdv A outer s H E hr => ?_, hm, FD.kp, FD.bindsN fun _ _ _ _ _ _ us hl => match us, hl with | [_, _], _ => rfl⟩
  have hu : (A.deeper (envOfC "seen_often" (defScope s_seen_often) s.heap.objs.size ft cdv)).units + 100 < cLine := by have := hr.un; omega
  exact (ss_cons (s_setLc (i := 2) rfl sc_seen_often.nd rfl rfl (sw_true rfl rfl rfl rfl) (i_lst rfl (d_sortSet rfl rfl rfl T.b_sorted rfl T.b_set (a_cons (d_var 0) a_nil))) (blkOk_by (own := [("j", 3)]) rfl) rfl (ow := false) (idx := [3]) (by decide) (fun _ _ _ _ _ => (g_name (i := 3) sc_seen_often.nd)) (fun _ _ _ _ _ => (ts_one (ct_ge (d_count rfl (d_var 0) (d_var 3)) (d_var 1)))) (fun _ _ _ _ _ => (d_var 3)))
    (ss_cons (s_if (ct_eq rfl hu (d_len rfl rfl T.b_len (a_cons (d_var 2) a_nil)) d_int) (ss_one (s_ret d_non)) ss_nil)
    (ss_one (s_ret (d_ix rfl (d_var 2) d_int)))))
/-! ### others -/
def N_others : List PySem.Str := ["hand", "hands", "j"]
theorem sc_others : FnScope N_others ["hand", "hands"] (defScope s_others) := ⟨rfl, rfl, rfl, by decide +kernel, rfl, by decide +kernel, by decide +kernel⟩
def b_others : List Vl → Option Out := (sRet (eLc (sRng1 (aCons (eVar 1) aNil)) (gN 2) (cNe (eVar 2) (eVar 0)) (eVar 2) [2]))
def F_others : List Vl → Option Rt := fnD 2 1 (b_others)
theorem ok_others {P : Program} {w : World} {K : PySem.W.Frag} {mg : PySem.Str → Option Value} {base : Heap} (T : Top K mg) : Fn P w K mg base 1 "others" 2 F_others := by
  obtain ⟨ft, fd, FD, hm⟩ := T.others
  refine ⟨ft, fd, ["hand", "hands"], def_ok (k := 0) (f := b_others) FD sc_others rfl fun cdv A outer s H E hr => ?_, hm, FD.kp, FD.bindsN fun _ _ _ _ _ _ us hl => match us, hl with | [_, _], _ => rfl⟩
  have hu : (A.deeper (envOfC "others" (defScope s_others) s.heap.objs.size ft cdv)).units + 100 < cLine := by have := hr.un; omega
  exact (ss_one (s_ret (d_lc rfl sc_others.nd (i_rng1 rfl T.b_range (a_cons (d_var 1) a_nil)) (blkOk_by (own := [("j", 2)]) rfl) rfl (ow := false) (idx := [2]) (by decide) (fun _ _ _ _ _ => (g_name (i := 2) sc_others.nd)) (fun _ _ _ _ _ => (ts_one (ct_ne rfl hu (d_var 2) (d_var 0)))) (fun _ _ _ _ _ => (d_var 2)))))
/-! ### number_behind -/
def N_number_behind : List PySem.Str := ["many", "turn"]
theorem sc_number_behind : FnScope N_number_behind ["many", "turn"] (defScope s_number_behind) := ⟨rfl, rfl, rfl, by decide +kernel, rfl, by decide +kernel, by decide +kernel⟩
def b_number_behind : List Vl → Option Out := (sSeq (sIf (cEq (eVar 1) (eD (.int 0))) (sRet (eAdd (eVar 0) (eD (.int 1)))) sNil) (sRet (eMod (eAdd (eVar 0) (eD (.int 1))) (eVar 1))))
def F_number_behind : List Vl → Option Rt := fnD 2 0 (b_number_behind)
theorem ok_number_behind {P : Program} {w : World} {K : PySem.W.Frag} {mg : PySem.Str → Option Value} {base : Heap} (T : Top K mg) : Fn P w K mg base 1 "number_behind" 2 F_number_behind := by
  obtain ⟨ft, fd, FD, hm⟩ := T.number_behind
  refine ⟨ft, fd, ["many", "turn"], def_ok (k := 0) (f := b_number_behind) FD sc_number_behind rfl fun cdv A outer s H E hr => ?_, hm, FD.kp, FD.bindsN fun _ _ _ _ _ _ us hl => match us, hl with | [_, _], _ => rfl⟩
  have hu : (A.deeper (envOfC "number_behind" (defScope s_number_behind) s.heap.objs.size ft cdv)).units + 100 < cLine := by have := hr.un; omega
  exact (ss_cons (s_if (ct_eq rfl hu (d_var 1) d_int) (ss_one (s_ret (d_add (d_var 0) d_int))) ss_nil)
    (ss_one (s_ret (d_mod (d_add (d_var 0) d_int) (d_var 1)))))
/-! ### values_of -/
def N_values_of : List PySem.Str := ["collect", "content"]
theorem sc_values_of : FnScope N_values_of ["collect"] (defScope s_values_of) := ⟨rfl, rfl, rfl, by decide +kernel, rfl, by decide +kernel, by decide +kernel⟩
def b_values_of : List Vl → Option Out := (sRet (eB1 gTupL (aCons (eLc (sTup (eVar 0)) (gN 1) cYes (eIx (eVar 1) (eD (.int 0))) [1]) aNil)))
def F_values_of : List Vl → Option Rt := fnD 1 1 (b_values_of)
theorem ok_values_of {P : Program} {w : World} {K : PySem.W.Frag} {mg : PySem.Str → Option Value} {base : Heap} (T : Top K mg) : Fn P w K mg base 1 "values_of" 1 F_values_of := by
  obtain ⟨ft, fd, FD, hm⟩ := T.values_of
  refine ⟨ft, fd, ["collect"], def_ok (k := 0) (f := b_values_of) FD sc_values_of rfl fun cdv A outer s H E hr => ?_, hm, FD.kp, FD.bindsN fun _ _ _ _ _ _ us hl => match us, hl with | [_], _ => rfl⟩
  have hu : (A.deeper (envOfC "values_of" (defScope s_values_of) s.heap.objs.size ft cdv)).units + 100 < cLine := by have := hr.un; omega
  exact (ss_one (s_ret (d_tupL rfl rfl T.b_tuple (a_cons (d_lc rfl sc_values_of.nd (i_tup rfl (d_var 0)) (blkOk_by (own := [("content", 1)]) rfl) rfl (ow := false) (idx := [1]) (by decide) (fun _ _ _ _ _ => (g_name (i := 1) sc_values_of.nd)) (fun _ _ _ _ _ => ts_nil) (fun _ _ _ _ _ => (d_ix rfl (d_var 1) d_int))) a_nil))))
/-! ### own_read -/
def N_own_read : List PySem.Str := ["place"]
theorem sc_own_read : FnScope N_own_read ["place"] (defScope s_own_read) := ⟨rfl, rfl, rfl, by decide +kernel, rfl, by decide +kernel, by decide +kernel⟩
def b_own_read : List Vl → Option Out := (sRet (eTup (aCons (eD (.str "read")) (aCons (eTup (aCons (eD (.str "own")) (aCons (eVar 0) aNil))) aNil))))
def F_own_read : List Vl → Option Rt := fnD 1 0 (b_own_read)
theorem ok_own_read {P : Program} {w : World} {K : PySem.W.Frag} {mg : PySem.Str → Option Value} {base : Heap} (T : Top K mg) : Fn P w K mg base 1 "own_read" 1 F_own_read := by
  obtain ⟨ft, fd, FD, hm⟩ := T.own_read
  refine ⟨ft, fd, ["place"], def_ok (k := 0) (f := b_own_read) FD sc_own_read rfl fun cdv A outer s H E hr => ?_, hm, FD.kp, FD.bindsN fun _ _ _ _ _ _ us hl => match us, hl with | [_], _ => rfl⟩
  have hu : (A.deeper (envOfC "own_read" (defScope s_own_read) s.heap.objs.size ft cdv)).units + 100 < cLine := by have := hr.un; omega
  exact (ss_one (s_ret (d_tup (a_cons d_str (a_cons (d_tup (a_cons d_str (a_cons (d_var 0) a_nil))) a_nil)))))
/-! ### next_once -/
def N_next_once : List PySem.Str := ["manner", "hand", "deed", "reads"]
theorem sc_next_once : FnScope N_next_once ["manner", "hand", "deed", "reads"] (defScope s_next_once) := ⟨rfl, rfl, rfl, by decide +kernel, rfl, by decide +kernel, by decide +kernel⟩
def b_next_once : List Vl → Option Out := (sSeq (sIf (cEq (eIx (eVar 2) (eD (.int 0))) (eD (.str "put"))) (sSeq (sIf (cEq (eB1 gLen (aCons (eVar 3) aNil)) (eD (.int 0))) (sRet (eTup (aCons (eD (.str "write")) (aCons (eTup (aCons (eD (.str "own")) (aCons (eVar 1) aNil))) (aCons (eIx (eVar 2) (eD (.int 2))) aNil))))) sNil) (sRet (eTup (aCons (eD (.str "told")) (aCons (eD .non) aNil))))) sNil) (sSeq (sIf (cLt (eB1 gLen (aCons (eVar 3) aNil)) (eIx (eVar 0) (eD (.int 1)))) (sRet (eCall 1 F_own_read (aCons (eB1 gLen (aCons (eVar 3) aNil)) aNil))) sNil) (sRet (eTup (aCons (eD (.str "told")) (aCons (eVar 3) aNil))))))
def F_next_once : List Vl → Option Rt := fnD 4 0 (b_next_once)
theorem ok_next_once {P : Program} {w : World} {K : PySem.W.Frag} {mg : PySem.Str → Option Value} {base : Heap} (T : Top K mg) (c_own_read : Fn P w K mg base 1 "own_read" 1 F_own_read) : Fn P w K mg base 2 "next_once" 4 F_next_once := by
  obtain ⟨ft, fd, FD, hm⟩ := T.next_once
  refine ⟨ft, fd, ["manner", "hand", "deed", "reads"], def_ok (k := 1) (f := b_next_once) FD sc_next_once rfl fun cdv A outer s H E hr => ?_, hm, FD.kp, FD.bindsN fun _ _ _ _ _ _ us hl => match us, hl with | [_, _, _, _], _ => rfl⟩
  have hu : (A.deeper (envOfC "next_once" (defScope s_next_once) s.heap.objs.size ft cdv)).units + 100 < cLine := by have := hr.un; omega
  exact (ss_cons (s_if (ct_eq rfl hu (d_ix rfl (d_var 2) d_int) d_str) (ss_cons (s_if (ct_eq rfl hu (d_len rfl rfl T.b_len (a_cons (d_var 3) a_nil)) d_int) (ss_one (s_ret (d_tup (a_cons d_str (a_cons (d_tup (a_cons d_str (a_cons (d_var 1) a_nil))) (a_cons (d_ix rfl (d_var 2) d_int) a_nil)))))) ss_nil)
    (ss_one (s_ret (d_tup (a_cons d_str (a_cons d_non a_nil)))))) ss_nil)
    (ss_cons (s_if (ct_lt (d_len rfl rfl T.b_len (a_cons (d_var 3) a_nil)) (d_ix rfl (d_var 0) d_int)) (ss_one (s_ret (d_call c_own_read rfl hr (by decide) rfl (a_cons (d_len rfl rfl T.b_len (a_cons (d_var 3) a_nil)) a_nil)))) ss_nil)
    (ss_one (s_ret (d_tup (a_cons d_str (a_cons (d_var 3) a_nil)))))))
/-! ### look_twice -/
def N_look_twice : List PySem.Str := ["hands", "reads", "one", "other"]
theorem sc_look_twice : FnScope N_look_twice ["hands", "reads"] (defScope s_look_twice) := ⟨rfl, rfl, rfl, by decide +kernel, rfl, by decide +kernel, by decide +kernel⟩
def b_look_twice : List Vl → Option Out := (sSeq (sIf (cAnd (cEq (eMod (eB1 gLen (aCons (eVar 1) aNil)) (eVar 0)) (eD (.int 0))) (cGe (eB1 gLen (aCons (eVar 1) aNil)) (eMul (eD (.int 2)) (eVar 0)))) (sSeq (sUnp [2, 3] (eCall 2 F_last_collects (aCons (eVar 1) (aCons (eVar 0) aNil)))) (sIf (cEq (eCall 3 F_changed_at (aCons (eVar 2) (aCons (eVar 3) (aCons (eD (.int 1)) aNil)))) (eLst aNil)) (sRet (eTup (aCons (eD (.str "told")) (aCons (eCall 1 F_values_of (aCons (eVar 3) aNil)) aNil)))) sNil)) sNil) (sRet (eCall 1 F_own_read (aCons (eMod (eB1 gLen (aCons (eVar 1) aNil)) (eVar 0)) aNil))))
def F_look_twice : List Vl → Option Rt := fnD 2 2 (b_look_twice)
theorem ok_look_twice {P : Program} {w : World} {K : PySem.W.Frag} {mg : PySem.Str → Option Value} {base : Heap} (T : Top K mg) (c_changed_at : Fn P w K mg base 1 "changed_at" 3 F_changed_at) (c_last_collects : Fn P w K mg base 1 "last_collects" 2 F_last_collects) (c_own_read : Fn P w K mg base 1 "own_read" 1 F_own_read) (c_values_of : Fn P w K mg base 1 "values_of" 1 F_values_of) : Fn P w K mg base 2 "look_twice" 2 F_look_twice := by
  obtain ⟨ft, fd, FD, hm⟩ := T.look_twice
  refine ⟨ft, fd, ["hands", "reads"], def_ok (k := 1) (f := b_look_twice) FD sc_look_twice rfl fun cdv A outer s H E hr => ?_, hm, FD.kp, FD.bindsN fun _ _ _ _ _ _ us hl => match us, hl with | [_, _], _ => rfl⟩
  have hu : (A.deeper (envOfC "look_twice" (defScope s_look_twice) s.heap.objs.size ft cdv)).units + 100 < cLine := by have := hr.un; omega
  exact (ss_cons (s_if (PW.pt (cw_and (ct_eq rfl hu (d_mod (d_len rfl rfl T.b_len (a_cons (d_var 1) a_nil)) (d_var 0)) d_int) (cw_and1 (ct_ge (d_len rfl rfl T.b_len (a_cons (d_var 1) a_nil)) (d_mul d_int (d_var 0)))))) (ss_cons (s_unp (is := [2, 3]) rfl rfl (gs_cons (i := 2) sc_look_twice.nd (gs_cons (i := 3) sc_look_twice.nd gs_nil)) (d_call c_last_collects rfl hr (by decide) rfl (a_cons (d_var 1) (a_cons (d_var 0) a_nil))))
    (ss_one (s_if (ct_eq rfl hu (d_call c_changed_at rfl hr (by decide) rfl (a_cons (d_var 2) (a_cons (d_var 3) (a_cons d_int a_nil)))) (d_lst a_nil)) (ss_one (s_ret (d_tup (a_cons d_str (a_cons (d_call c_values_of rfl hr (by decide) rfl (a_cons (d_var 3) a_nil)) a_nil))))) ss_nil))) ss_nil)
    (ss_one (s_ret (d_call c_own_read rfl hr (by decide) rfl (a_cons (d_mod (d_len rfl rfl T.b_len (a_cons (d_var 1) a_nil)) (d_var 0)) a_nil)))))
/-! ### next_twice -/
def N_next_twice : List PySem.Str := ["manner", "hand", "deed", "ahead", "reads", "word", "hands", "turn"]
theorem sc_next_twice : FnScope N_next_twice ["manner", "hand", "deed", "ahead", "reads"] (defScope s_next_twice) := ⟨rfl, rfl, rfl, by decide +kernel, rfl, by decide +kernel, by decide +kernel⟩
def b_next_twice : List Vl → Option Out := (sSeq (sUnp [5, 6, 7] (eVar 0)) (sSeq (sIf (cEq (eIx (eVar 2) (eD (.int 0))) (eD (.str "look"))) (sRet (eCall 2 F_look_twice (aCons (eVar 6) (aCons (eVar 4) aNil)))) sNil) (sSeq (sIf (cEq (eB1 gLen (aCons (eVar 4) aNil)) (eD (.int 0))) (sRet (eTup (aCons (eD (.str "write")) (aCons (eTup (aCons (eD (.str "own")) (aCons (eVar 1) aNil))) (aCons (eTup (aCons (eIx (eVar 2) (eD (.int 2))) (aCons (eCall 2 F_number_behind (aCons (eIx (eVar 3) (eVar 1)) (aCons (eVar 7) aNil))) aNil))) aNil))))) sNil) (sRet (eTup (aCons (eD (.str "told")) (aCons (eD .non) aNil)))))))
def F_next_twice : List Vl → Option Rt := fnD 5 3 (b_next_twice)
theorem ok_next_twice {P : Program} {w : World} {K : PySem.W.Frag} {mg : PySem.Str → Option Value} {base : Heap} (T : Top K mg) (c_look_twice : Fn P w K mg base 2 "look_twice" 2 F_look_twice) (c_number_behind : Fn P w K mg base 1 "number_behind" 2 F_number_behind) : Fn P w K mg base 3 "next_twice" 5 F_next_twice := by
  obtain ⟨ft, fd, FD, hm⟩ := T.next_twice
  refine ⟨ft, fd, ["manner", "hand", "deed", "ahead", "reads"], def_ok (k := 2) (f := b_next_twice) FD sc_next_twice rfl fun cdv A outer s H E hr => ?_, hm, FD.kp, FD.bindsN fun _ _ _ _ _ _ us hl => match us, hl with | [_, _, _, _, _], _ => rfl⟩
  have hu : (A.deeper (envOfC "next_twice" (defScope s_next_twice) s.heap.objs.size ft cdv)).units + 100 < cLine := by have := hr.un; omega
  exact (ss_cons (s_unp (is := [5, 6, 7]) rfl rfl (gs_cons (i := 5) sc_next_twice.nd (gs_cons (i := 6) sc_next_twice.nd (gs_cons (i := 7) sc_next_twice.nd gs_nil))) (d_var 0))
    (ss_cons (s_if (ct_eq rfl hu (d_ix rfl (d_var 2) d_int) d_str) (ss_one (s_ret (d_call c_look_twice rfl hr (by decide) rfl (a_cons (d_var 6) (a_cons (d_var 4) a_nil))))) ss_nil)
    (ss_cons (s_if (ct_eq rfl hu (d_len rfl rfl T.b_len (a_cons (d_var 4) a_nil)) d_int) (ss_one (s_ret (d_tup (a_cons d_str (a_cons (d_tup (a_cons d_str (a_cons (d_var 1) a_nil))) (a_cons (d_tup (a_cons (d_ix rfl (d_var 2) d_int) (a_cons (d_call c_number_behind rfl hr (by decide) rfl (a_cons (d_ix rfl (d_var 3) (d_var 1)) (a_cons (d_var 7) a_nil))) a_nil))) a_nil)))))) ss_nil)
    (ss_one (s_ret (d_tup (a_cons d_str (a_cons d_non a_nil))))))))
/-! ### all_moved -/
def N_all_moved : List PySem.Str := ["hands", "reads", "seen", "begin", "one", "other"]
theorem sc_all_moved : FnScope N_all_moved ["hands", "reads"] (defScope s_all_moved) := ⟨rfl, rfl, rfl, by decide +kernel, rfl, by decide +kernel, by decide +kernel⟩
def b_all_moved : List Vl → Option Out := (sSeq (sAsg 2 (eLst aNil)) (sSeq (sFor (sRng3 (aCons (eD (.int 0)) (aCons (eAdd (eSub (eB1 gLen (aCons (eVar 1) aNil)) (eMul (eD (.int 2)) (eVar 0))) (eD (.int 1))) (aCons (eVar 0) aNil)))) (gN 3) (sSeq (sAsg 4 (eSl (eVar 1) (oSome (eVar 3)) (oSome (eAdd (eVar 3) (eVar 0))))) (sSeq (sAsg 5 (eSl (eVar 1) (oSome (eAdd (eVar 3) (eVar 0))) (oSome (eAdd (eVar 3) (eMul (eD (.int 2)) (eVar 0)))))) (sExt 2 (aCons (eCall 3 F_changed_at (aCons (eVar 4) (aCons (eVar 5) (aCons (eD (.int 1)) aNil)))) aNil))))) (sRet (eVar 2))))
def F_all_moved : List Vl → Option Rt := fnD 2 4 (b_all_moved)
theorem ok_all_moved {P : Program} {w : World} {K : PySem.W.Frag} {mg : PySem.Str → Option Value} {base : Heap} (T : Top K mg) (c_changed_at : Fn P w K mg base 1 "changed_at" 3 F_changed_at) : Fn P w K mg base 2 "all_moved" 2 F_all_moved := by
  obtain ⟨ft, fd, FD, hm⟩ := T.all_moved
  refine ⟨ft, fd, ["hands", "reads"], def_ok (k := 1) (f := b_all_moved) FD sc_all_moved rfl fun cdv A outer s H E hr => ?_, hm, FD.kp, FD.bindsN fun _ _ _ _ _ _ us hl => match us, hl with | [_, _], _ => rfl⟩
  have hu : (A.deeper (envOfC "all_moved" (defScope s_all_moved) s.heap.objs.size ft cdv)).units + 100 < cLine := by have := hr.un; omega
  exact (ss_cons (s_set (i := 2) sc_all_moved.nd (d_lst a_nil))
    (ss_cons (s_for PassesOwn.never rfl (i_rng3 rfl T.b_range (a_cons d_int (a_cons (d_add (d_sub (d_len rfl rfl T.b_len (a_cons (d_var 1) a_nil)) (d_mul d_int (d_var 0))) d_int) (a_cons (d_var 0) a_nil)))) (g_name (i := 3) sc_all_moved.nd) (ss_cons (s_set (i := 4) sc_all_moved.nd (d_slice rfl (d_var 1) (o_some (d_var 3)) (o_some (d_add (d_var 3) (d_var 0)))))
    (ss_cons (s_set (i := 5) sc_all_moved.nd (d_slice rfl (d_var 1) (o_some (d_add (d_var 3) (d_var 0))) (o_some (d_add (d_var 3) (d_mul d_int (d_var 0))))))
    (ss_one (s_ext (i := 2) rfl (a_cons (d_call c_changed_at rfl hr (by decide) rfl (a_cons (d_var 4) (a_cons (d_var 5) (a_cons d_int a_nil)))) a_nil))))))
    (ss_one (s_ret (d_var 2)))))
/-! ### look_handed -/
def N_look_handed : List PySem.Str := ["hands", "moves", "reads", "one", "other", "mover"]
theorem sc_look_handed : FnScope N_look_handed ["hands", "moves", "reads"] (defScope s_look_handed) := ⟨rfl, rfl, rfl, by decide +kernel, rfl, by decide +kernel, by decide +kernel⟩
def b_look_handed : List Vl → Option Out := (sSeq (sIf (cAnd (cEq (eMod (eB1 gLen (aCons (eVar 2) aNil)) (eVar 0)) (eD (.int 0))) (cGe (eB1 gLen (aCons (eVar 2) aNil)) (eMul (eD (.int 2)) (eVar 0)))) (sSeq (sUnp [3, 4] (eCall 2 F_last_collects (aCons (eVar 2) (aCons (eVar 0) aNil)))) (sSeq (sIf (cEq (eCall 3 F_changed_at (aCons (eVar 3) (aCons (eVar 4) (aCons (eD (.int 1)) aNil)))) (eLst aNil)) (sRet (eTup (aCons (eD (.str "told")) (aCons (eCall 1 F_values_of (aCons (eVar 4) aNil)) aNil)))) sNil) (sSeq (sAsg 5 (eCall 2 F_seen_often (aCons (eCall 2 F_all_moved (aCons (eVar 0) (aCons (eVar 2) aNil))) (aCons (eVar 1) aNil)))) (sIf (cNotN (eVar 5) (eD .non)) (sRet (eTup (aCons (eD (.str "told")) (aCons (eIx (eIx (eVar 4) (eVar 5)) (eD (.int 2))) aNil)))) sNil)))) sNil) (sRet (eCall 1 F_own_read (aCons (eMod (eB1 gLen (aCons (eVar 2) aNil)) (eVar 0)) aNil))))
def F_look_handed : List Vl → Option Rt := fnD 3 3 (b_look_handed)
theorem ok_look_handed {P : Program} {w : World} {K : PySem.W.Frag} {mg : PySem.Str → Option Value} {base : Heap} (T : Top K mg) (c_all_moved : Fn P w K mg base 2 "all_moved" 2 F_all_moved) (c_changed_at : Fn P w K mg base 1 "changed_at" 3 F_changed_at) (c_last_collects : Fn P w K mg base 1 "last_collects" 2 F_last_collects) (c_own_read : Fn P w K mg base 1 "own_read" 1 F_own_read) (c_seen_often : Fn P w K mg base 1 "seen_often" 2 F_seen_often) (c_values_of : Fn P w K mg base 1 "values_of" 1 F_values_of) : Fn P w K mg base 3 "look_handed" 3 F_look_handed := by
  obtain ⟨ft, fd, FD, hm⟩ := T.look_handed
  refine ⟨ft, fd, ["hands", "moves", "reads"], def_ok (k := 2) (f := b_look_handed) FD sc_look_handed rfl fun cdv A outer s H E hr => ?_, hm, FD.kp, FD.bindsN fun _ _ _ _ _ _ us hl => match us, hl with | [_, _, _], _ => rfl⟩
  have hu : (A.deeper (envOfC "look_handed" (defScope s_look_handed) s.heap.objs.size ft cdv)).units + 100 < cLine := by have := hr.un; omega
  exact (ss_cons (s_if (PW.pt (cw_and (ct_eq rfl hu (d_mod (d_len rfl rfl T.b_len (a_cons (d_var 2) a_nil)) (d_var 0)) d_int) (cw_and1 (ct_ge (d_len rfl rfl T.b_len (a_cons (d_var 2) a_nil)) (d_mul d_int (d_var 0)))))) (ss_cons (s_unp (is := [3, 4]) rfl rfl (gs_cons (i := 3) sc_look_handed.nd (gs_cons (i := 4) sc_look_handed.nd gs_nil)) (d_call c_last_collects rfl hr (by decide) rfl (a_cons (d_var 2) (a_cons (d_var 0) a_nil))))
    (ss_cons (s_if (ct_eq rfl hu (d_call c_changed_at rfl hr (by decide) rfl (a_cons (d_var 3) (a_cons (d_var 4) (a_cons d_int a_nil)))) (d_lst a_nil)) (ss_one (s_ret (d_tup (a_cons d_str (a_cons (d_call c_values_of rfl hr (by decide) rfl (a_cons (d_var 4) a_nil)) a_nil))))) ss_nil)
    (ss_cons (s_set (i := 5) sc_look_handed.nd (d_call c_seen_often rfl hr (by decide) rfl (a_cons (d_call c_all_moved rfl hr (by decide) rfl (a_cons (d_var 0) (a_cons (d_var 2) a_nil))) (a_cons (d_var 1) a_nil))))
    (ss_one (s_if (ct_notN (d_var 5) d_non) (ss_one (s_ret (d_tup (a_cons d_str (a_cons (d_ix rfl (d_ix rfl (d_var 4) (d_var 5)) d_int) a_nil))))) ss_nil))))) ss_nil)
    (ss_one (s_ret (d_call c_own_read rfl hr (by decide) rfl (a_cons (d_mod (d_len rfl rfl T.b_len (a_cons (d_var 2) a_nil)) (d_var 0)) a_nil)))))
/-! ### next_handed -/
def N_next_handed : List PySem.Str := ["manner", "hand", "deed", "ahead", "reads", "word", "hands", "turn", "moves", "step"]
theorem sc_next_handed : FnScope N_next_handed ["manner", "hand", "deed", "ahead", "reads"] (defScope s_next_handed) := ⟨rfl, rfl, rfl, by decide +kernel, rfl, by decide +kernel, by decide +kernel⟩
def b_next_handed : List Vl → Option Out := (sSeq (sUnp [5, 6, 7, 8] (eVar 0)) (sSeq (sIf (cAnd (cEq (eIx (eVar 2) (eD (.int 0))) (eD (.str "put"))) (cAnd (cGt (eB1 gLen (aCons (eVar 4) aNil)) (eD (.int 0))) (cIsN (eIx (eVar 4) (eNeg (eD (.int 1)))) (eD .non)))) (sRet (eTup (aCons (eD (.str "told")) (aCons (eD .non) aNil)))) sNil) (sSeq (sAsg 9 (eCall 3 F_look_handed (aCons (eVar 6) (aCons (eVar 8) (aCons (eVar 4) aNil))))) (sSeq (sIf (cOr (cEq (eIx (eVar 2) (eD (.int 0))) (eD (.str "look"))) (cNe (eIx (eVar 9) (eD (.int 0))) (eD (.str "told")))) (sRet (eVar 9)) sNil) (sRet (eTup (aCons (eD (.str "write")) (aCons (eTup (aCons (eD (.str "own")) (aCons (eVar 1) aNil))) (aCons (eTup (aCons (eIx (eVar 2) (eD (.int 2))) (aCons (eCall 2 F_number_behind (aCons (eIx (eVar 3) (eVar 1)) (aCons (eVar 7) aNil))) (aCons (eIx (eVar 9) (eD (.int 1))) aNil)))) aNil)))))))))
def F_next_handed : List Vl → Option Rt := fnD 5 5 (b_next_handed)
theorem ok_next_handed {P : Program} {w : World} {K : PySem.W.Frag} {mg : PySem.Str → Option Value} {base : Heap} (T : Top K mg) (c_look_handed : Fn P w K mg base 3 "look_handed" 3 F_look_handed) (c_number_behind : Fn P w K mg base 1 "number_behind" 2 F_number_behind) : Fn P w K mg base 4 "next_handed" 5 F_next_handed := by
  obtain ⟨ft, fd, FD, hm⟩ := T.next_handed
  refine ⟨ft, fd, ["manner", "hand", "deed", "ahead", "reads"], def_ok (k := 3) (f := b_next_handed) FD sc_next_handed rfl fun cdv A outer s H E hr => ?_, hm, FD.kp, FD.bindsN fun _ _ _ _ _ _ us hl => match us, hl with | [_, _, _, _, _], _ => rfl⟩
  have hu : (A.deeper (envOfC "next_handed" (defScope s_next_handed) s.heap.objs.size ft cdv)).units + 100 < cLine := by have := hr.un; omega
  exact (ss_cons (s_unp (is := [5, 6, 7, 8]) rfl rfl (gs_cons (i := 5) sc_next_handed.nd (gs_cons (i := 6) sc_next_handed.nd (gs_cons (i := 7) sc_next_handed.nd (gs_cons (i := 8) sc_next_handed.nd gs_nil)))) (d_var 0))
    (ss_cons (s_if (PW.pt (cw_and (ct_eq rfl hu (d_ix rfl (d_var 2) d_int) d_str) (cw_and (ct_gt (d_len rfl rfl T.b_len (a_cons (d_var 4) a_nil)) d_int) (cw_and1 (ct_isN (d_ix rfl (d_var 4) (d_neg d_int)) d_non))))) (ss_one (s_ret (d_tup (a_cons d_str (a_cons d_non a_nil))))) ss_nil)
    (ss_cons (s_set (i := 9) sc_next_handed.nd (d_call c_look_handed rfl hr (by decide) rfl (a_cons (d_var 6) (a_cons (d_var 8) (a_cons (d_var 4) a_nil)))))
    (ss_cons (s_if (PW.pt (cw_or (ct_eq rfl hu (d_ix rfl (d_var 2) d_int) d_str) (cw_or1 (ct_ne rfl hu (d_ix rfl (d_var 9) d_int) d_str)))) (ss_one (s_ret (d_var 9))) ss_nil)
    (ss_one (s_ret (d_tup (a_cons d_str (a_cons (d_tup (a_cons d_str (a_cons (d_var 1) a_nil))) (a_cons (d_tup (a_cons (d_ix rfl (d_var 2) d_int) (a_cons (d_call c_number_behind rfl hr (by decide) rfl (a_cons (d_ix rfl (d_var 3) (d_var 1)) (a_cons (d_var 7) a_nil))) (a_cons (d_ix rfl (d_var 9) d_int) a_nil)))) a_nil))))))))))
/-! ### round_length_signs -/
def N_round_length_signs : List PySem.Str := ["hands", "shakes"]
theorem sc_round_length_signs : FnScope N_round_length_signs ["hands", "shakes"] (defScope s_round_length_signs) := ⟨rfl, rfl, rfl, by decide +kernel, rfl, by decide +kernel, by decide +kernel⟩
def b_round_length_signs : List Vl → Option Out := (sRet (eAdd (eMul (eMul (eD (.int 2)) (eVar 1)) (eSub (eVar 0) (eD (.int 1)))) (eMul (eD (.int 2)) (eVar 0))))
def F_round_length_signs : List Vl → Option Rt := fnD 2 0 (b_round_length_signs)
theorem ok_round_length_signs {P : Program} {w : World} {K : PySem.W.Frag} {mg : PySem.Str → Option Value} {base : Heap} (T : Top K mg) : Fn P w K mg base 1 "round_length_signs" 2 F_round_length_signs := by
  obtain ⟨ft, fd, FD, hm⟩ := T.round_length_signs
  refine ⟨ft, fd, ["hands", "shakes"], def_ok (k := 0) (f := b_round_length_signs) FD sc_round_length_signs rfl fun cdv A outer s H E hr => ?_, hm, FD.kp, FD.bindsN fun _ _ _ _ _ _ us hl => match us, hl with | [_, _], _ => rfl⟩
  have hu : (A.deeper (envOfC "round_length" (defScope s_round_length_signs) s.heap.objs.size ft cdv)).units + 100 < cLine := by have := hr.un; omega
  exact (ss_one (s_ret (d_add (d_mul (d_mul d_int (d_var 1)) (d_sub (d_var 0) d_int)) (d_mul d_int (d_var 0)))))
/-! ### shake_step -/
def N_shake_step : List PySem.Str := ["hand", "hands", "reads", "at", "j"]
theorem sc_shake_step : FnScope N_shake_step ["hand", "hands", "reads", "at"] (defScope s_shake_step) := ⟨rfl, rfl, rfl, by decide +kernel, rfl, by decide +kernel, by decide +kernel⟩
def b_shake_step : List Vl → Option Out := (sSeq (sAsg 4 (eIx (eCall 2 F_others (aCons (eVar 0) (aCons (eVar 1) aNil))) (eDiv (eVar 3) (eD (.int 2))))) (sSeq (sIf (cEq (eMod (eVar 3) (eD (.int 2))) (eD (.int 0))) (sRet (eCall 1 F_own_read (aCons (eVar 4) aNil))) sNil) (sRet (eTup (aCons (eD (.str "write")) (aCons (eTup (aCons (eD (.str "sign")) (aCons (eVar 0) (aCons (eVar 4) aNil)))) (aCons (eIx (eIx (eIx (eVar 2) (eNeg (eD (.int 1)))) (eD (.int 1))) (eVar 0)) aNil)))))))
def F_shake_step : List Vl → Option Rt := fnD 4 1 (b_shake_step)
theorem ok_shake_step {P : Program} {w : World} {K : PySem.W.Frag} {mg : PySem.Str → Option Value} {base : Heap} (T : Top K mg) (c_others : Fn P w K mg base 1 "others" 2 F_others) (c_own_read : Fn P w K mg base 1 "own_read" 1 F_own_read) : Fn P w K mg base 2 "shake_step" 4 F_shake_step := by
  obtain ⟨ft, fd, FD, hm⟩ := T.shake_step
  refine ⟨ft, fd, ["hand", "hands", "reads", "at"], def_ok (k := 1) (f := b_shake_step) FD sc_shake_step rfl fun cdv A outer s H E hr => ?_, hm, FD.kp, FD.bindsN fun _ _ _ _ _ _ us hl => match us, hl with | [_, _, _, _], _ => rfl⟩
  have hu : (A.deeper (envOfC "shake_step" (defScope s_shake_step) s.heap.objs.size ft cdv)).units + 100 < cLine := by have := hr.un; omega
  exact (ss_cons (s_set (i := 4) sc_shake_step.nd (d_ix rfl (d_call c_others rfl hr (by decide) rfl (a_cons (d_var 0) (a_cons (d_var 1) a_nil))) (d_div (d_var 3) d_int)))
    (ss_cons (s_if (ct_eq rfl hu (d_mod (d_var 3) d_int) d_int) (ss_one (s_ret (d_call c_own_read rfl hr (by decide) rfl (a_cons (d_var 4) a_nil)))) ss_nil)
    (ss_one (s_ret (d_tup (a_cons d_str (a_cons (d_tup (a_cons d_str (a_cons (d_var 0) (a_cons (d_var 4) a_nil)))) (a_cons (d_ix rfl (d_ix rfl (d_ix rfl (d_var 2) (d_neg d_int)) d_int) (d_var 0)) a_nil))))))))
/-! ### moved_in_signs -/
def N_moved_in_signs : List PySem.Str := ["hand", "manner", "reads", "word", "hands", "toggles", "shakes", "moves", "one", "other", "seen", "at", "j", "calls", "sign"]
theorem sc_moved_in_signs : FnScope N_moved_in_signs ["hand", "manner", "reads"] (defScope s_moved_in_signs) := ⟨rfl, rfl, rfl, by decide +kernel, rfl, by decide +kernel, by decide +kernel⟩
def b_moved_in_signs : List Vl → Option Out := (sSeq (sUnp [3, 4, 5, 6, 7] (eVar 1)) (sSeq (sAsg 8 (eSl (eVar 2) (oSome (eMul (eNeg (eD (.int 2))) (eVar 4))) (oSome (eNeg (eVar 4))))) (sSeq (sAsg 9 (eSl (eVar 2) (oSome (eNeg (eVar 4))) oNone)) (sSeq (sAsg 10 (eLst aNil)) (sSeq (sFor (sEnum (aCons (eCall 2 F_others (aCons (eVar 0) (aCons (eVar 4) aNil))) aNil)) (gP [11, 12]) (sSeq (sAsg 13 (eLst (aCons (eIx (eIx (eIx (eVar 8) (eVar 12)) (eD (.int 1))) (eVar 0)) (aCons (eIx (eIx (eIx (eVar 9) (eVar 12)) (eD (.int 1))) (eVar 0)) aNil)))) (sSeq (sAsg 14 (eD .non)) (sSeq (sIf (cEq (eVar 6) (eD (.int 1))) (sAsg 14 (eIx (eIx (eIx (eVar 2) (eMul (eD (.int 2)) (eVar 11))) (eD (.int 1))) (eVar 0))) sNil) (sIf (cOr (cAnd (cEq (eVar 5) (eD (.int 1))) (cNe (eIx (eIx (eVar 8) (eVar 12)) (eD (.int 2))) (eIx (eIx (eVar 9) (eVar 12)) (eD (.int 2))))) (cAnd (cEq (eVar 6) (eD (.int 1))) (cNe (eVar 13) (eLst (aCons (eVar 14) (aCons (eVar 14) aNil)))))) (sApp 10 (aCons (eVar 12) aNil)) sNil))))) (sRet (eVar 10)))))))
def F_moved_in_signs : List Vl → Option Rt := fnD 3 12 (b_moved_in_signs)
theorem ok_moved_in_signs {P : Program} {w : World} {K : PySem.W.Frag} {mg : PySem.Str → Option Value} {base : Heap} (T : Top K mg) (c_others : Fn P w K mg base 1 "others" 2 F_others) : Fn P w K mg base 2 "moved_in_signs" 3 F_moved_in_signs := by
  obtain ⟨ft, fd, FD, hm⟩ := T.moved_in_signs
  refine ⟨ft, fd, ["hand", "manner", "reads"], def_ok (k := 1) (f := b_moved_in_signs) FD sc_moved_in_signs rfl fun cdv A outer s H E hr => ?_, hm, FD.kp, FD.bindsN fun _ _ _ _ _ _ us hl => match us, hl with | [_, _, _], _ => rfl⟩
  have hu : (A.deeper (envOfC "moved_in" (defScope s_moved_in_signs) s.heap.objs.size ft cdv)).units + 100 < cLine := by have := hr.un; omega
  exact (ss_cons (s_unp (is := [3, 4, 5, 6, 7]) rfl rfl (gs_cons (i := 3) sc_moved_in_signs.nd (gs_cons (i := 4) sc_moved_in_signs.nd (gs_cons (i := 5) sc_moved_in_signs.nd (gs_cons (i := 6) sc_moved_in_signs.nd (gs_cons (i := 7) sc_moved_in_signs.nd gs_nil))))) (d_var 1))
    (ss_cons (s_set (i := 8) sc_moved_in_signs.nd (d_slice rfl (d_var 2) (o_some (d_mul (d_neg d_int) (d_var 4))) (o_some (d_neg (d_var 4)))))
    (ss_cons (s_set (i := 9) sc_moved_in_signs.nd (d_slice rfl (d_var 2) (o_some (d_neg (d_var 4))) o_none))
    (ss_cons (s_set (i := 10) sc_moved_in_signs.nd (d_lst a_nil))
    (ss_cons (s_for PassesOwn.never rfl (i_enum rfl rfl T.b_enumerate (a'_cons (d_call c_others rfl hr (by decide) rfl (a_cons (d_var 0) (a_cons (d_var 4) a_nil))) a'_nil)) (g_tup (is := [11, 12]) rfl rfl (gs_cons (i := 11) sc_moved_in_signs.nd (gs_cons (i := 12) sc_moved_in_signs.nd gs_nil))) (ss_cons (s_set (i := 13) sc_moved_in_signs.nd (d_lst (a_cons (d_ix rfl (d_ix rfl (d_ix rfl (d_var 8) (d_var 12)) d_int) (d_var 0)) (a_cons (d_ix rfl (d_ix rfl (d_ix rfl (d_var 9) (d_var 12)) d_int) (d_var 0)) a_nil))))
    (ss_cons (s_set (i := 14) sc_moved_in_signs.nd d_non)
    (ss_cons (s_if (ct_eq rfl hu (d_var 6) d_int) (ss_one (s_set (i := 14) sc_moved_in_signs.nd (d_ix rfl (d_ix rfl (d_ix rfl (d_var 2) (d_mul d_int (d_var 11))) d_int) (d_var 0)))) ss_nil)
    (ss_one (s_if (PW.pt (cw_or (PW.pt (cw_and (ct_eq rfl hu (d_var 5) d_int) (cw_and1 (ct_ne rfl hu (d_ix rfl (d_ix rfl (d_var 8) (d_var 12)) d_int) (d_ix rfl (d_ix rfl (d_var 9) (d_var 12)) d_int))))) (cw_or1 (PW.pt (cw_and (ct_eq rfl hu (d_var 6) d_int) (cw_and1 (ct_ne rfl hu (d_var 13) (d_lst (a_cons (d_var 14) (a_cons (d_var 14) a_nil)))))))))) (ss_one (s_app (i := 10) rfl (a_cons (d_var 12) a_nil))) ss_nil))))))
    (ss_one (s_ret (d_var 10))))))))
/-! ### look_signs -/
def N_look_signs : List PySem.Str := ["hand", "manner", "reads", "word", "hands", "toggles", "shakes", "moves", "long", "rows", "seen", "row", "mover", "at", "begin"]
theorem sc_look_signs : FnScope N_look_signs ["hand", "manner", "reads"] (defScope s_look_signs) := ⟨rfl, rfl, rfl, by decide +kernel, rfl, by decide +kernel, by decide +kernel⟩
def b_look_signs : List Vl → Option Out := (sSeq (sUnp [3, 4, 5, 6, 7] (eVar 1)) (sSeq (sAsg 8 (eCall 2 F_round_length_signs (aCons (eVar 4) (aCons (eVar 6) aNil)))) (sSeq (sIf (cAnd (cGt (eB1 gLen (aCons (eVar 2) aNil)) (eD (.int 0))) (cEq (eMod (eB1 gLen (aCons (eVar 2) aNil)) (eVar 8)) (eD (.int 0)))) (sSeq (sAsg 9 (eLc (sRng3 (aCons (eD (.int 0)) (aCons (eB1 gLen (aCons (eVar 2) aNil)) (aCons (eVar 8) aNil)))) (gN 14) cYes (eSl (eVar 2) (oSome (eVar 14)) (oSome (eAdd (eVar 14) (eVar 8)))) [14])) (sSeq (sIf (cEq (eCall 3 F_moved_in_signs (aCons (eVar 0) (aCons (eVar 1) (aCons (eIx (eVar 9) (eNeg (eD (.int 1)))) aNil)))) (eLst aNil)) (sRet (eTup (aCons (eD (.str "told")) (aCons (eCall 1 F_values_of (aCons (eSl (eIx (eVar 9) (eNeg (eD (.int 1)))) (oSome (eNeg (eVar 4))) oNone) aNil)) aNil)))) sNil) (sSeq (sAsg 10 (eLst aNil)) (sSeq (sForV 9 (gN 11) (sExt 10 (aCons (eCall 3 F_moved_in_signs (aCons (eVar 0) (aCons (eVar 1) (aCons (eVar 11) aNil)))) aNil))) (sSeq (sAsg 12 (eCall 2 F_seen_often (aCons (eVar 10) (aCons (eVar 7) aNil)))) (sIf (cNotN (eVar 12) (eD .non)) (sRet (eTup (aCons (eD (.str "told")) (aCons (eIx (eIx (eSl (eIx (eVar 9) (eNeg (eD (.int 1)))) (oSome (eNeg (eVar 4))) oNone) (eVar 12)) (eD (.int 3))) aNil)))) sNil)))))) sNil) (sSeq (sAsg 13 (eMod (eB1 gLen (aCons (eVar 2) aNil)) (eVar 8))) (sSeq (sIf (cLt (eVar 13) (eSub (eVar 8) (eMul (eD (.int 2)) (eVar 4)))) (sRet (eCall 4 F_shake_step (aCons (eVar 0) (aCons (eVar 4) (aCons (eVar 2) (aCons (eVar 13) aNil)))))) sNil) (sRet (eCall 1 F_own_read (aCons (eMod (eSub (eVar 13) (eSub (eVar 8) (eMul (eD (.int 2)) (eVar 4)))) (eVar 4)) aNil))))))))
def F_look_signs : List Vl → Option Rt := fnD 3 12 (b_look_signs)
theorem ok_look_signs {P : Program} {w : World} {K : PySem.W.Frag} {mg : PySem.Str → Option Value} {base : Heap} (T : Top K mg) (c_moved_in_signs : Fn P w K mg base 2 "moved_in_signs" 3 F_moved_in_signs) (c_own_read : Fn P w K mg base 1 "own_read" 1 F_own_read) (c_round_length_signs : Fn P w K mg base 1 "round_length_signs" 2 F_round_length_signs) (c_seen_often : Fn P w K mg base 1 "seen_often" 2 F_seen_often) (c_shake_step : Fn P w K mg base 2 "shake_step" 4 F_shake_step) (c_values_of : Fn P w K mg base 1 "values_of" 1 F_values_of) : Fn P w K mg base 3 "look_signs" 3 F_look_signs := by
  obtain ⟨ft, fd, FD, hm⟩ := T.look_signs
  refine ⟨ft, fd, ["hand", "manner", "reads"], def_ok (k := 2) (f := b_look_signs) FD sc_look_signs rfl fun cdv A outer s H E hr => ?_, hm, FD.kp, FD.bindsN fun _ _ _ _ _ _ us hl => match us, hl with | [_, _, _], _ => rfl⟩
  have hu : (A.deeper (envOfC "look_signs" (defScope s_look_signs) s.heap.objs.size ft cdv)).units + 100 < cLine := by have := hr.un; omega
  exact (ss_cons (s_unp (is := [3, 4, 5, 6, 7]) rfl rfl (gs_cons (i := 3) sc_look_signs.nd (gs_cons (i := 4) sc_look_signs.nd (gs_cons (i := 5) sc_look_signs.nd (gs_cons (i := 6) sc_look_signs.nd (gs_cons (i := 7) sc_look_signs.nd gs_nil))))) (d_var 1))
    (ss_cons (s_set (i := 8) sc_look_signs.nd (d_call c_round_length_signs rfl hr (by decide) rfl (a_cons (d_var 4) (a_cons (d_var 6) a_nil))))
    (ss_cons (s_if (PW.pt (cw_and (ct_gt (d_len rfl rfl T.b_len (a_cons (d_var 2) a_nil)) d_int) (cw_and1 (ct_eq rfl hu (d_mod (d_len rfl rfl T.b_len (a_cons (d_var 2) a_nil)) (d_var 8)) d_int)))) (ss_cons (s_setLc (i := 9) rfl sc_look_signs.nd rfl rfl (sw_true rfl rfl rfl rfl) (i_rng3 rfl T.b_range (a_cons d_int (a_cons (d_len rfl rfl T.b_len (a_cons (d_var 2) a_nil)) (a_cons (d_var 8) a_nil)))) (blkOk_by (own := [("begin", 14)]) rfl) rfl (ow := false) (idx := [14]) (by decide) (fun _ _ _ _ _ => (g_name (i := 14) sc_look_signs.nd)) (fun _ _ _ _ _ => ts_nil) (fun _ _ _ _ _ => (d_slice rfl (d_var 2) (o_some (d_var 14)) (o_some (d_add (d_var 14) (d_var 8))))))
    (ss_cons (s_if (ct_eq rfl hu (d_call c_moved_in_signs rfl hr (by decide) rfl (a_cons (d_var 0) (a_cons (d_var 1) (a_cons (d_ix rfl (d_var 9) (d_neg d_int)) a_nil)))) (d_lst a_nil)) (ss_one (s_ret (d_tup (a_cons d_str (a_cons (d_call c_values_of rfl hr (by decide) rfl (a_cons (d_slice rfl (d_ix rfl (d_var 9) (d_neg d_int)) (o_some (d_neg (d_var 4))) o_none) a_nil)) a_nil))))) ss_nil)
    (ss_cons (s_set (i := 10) sc_look_signs.nd (d_lst a_nil))
    (ss_cons (s_forV (i := 9) rfl PassesOwn.never rfl (g_name (i := 11) sc_look_signs.nd) (ss_one (s_ext (i := 10) rfl (a_cons (d_call c_moved_in_signs rfl hr (by decide) rfl (a_cons (d_var 0) (a_cons (d_var 1) (a_cons (d_var 11) a_nil)))) a_nil))))
    (ss_cons (s_set (i := 12) sc_look_signs.nd (d_call c_seen_often rfl hr (by decide) rfl (a_cons (d_var 10) (a_cons (d_var 7) a_nil))))
    (ss_one (s_if (ct_notN (d_var 12) d_non) (ss_one (s_ret (d_tup (a_cons d_str (a_cons (d_ix rfl (d_ix rfl (d_slice rfl (d_ix rfl (d_var 9) (d_neg d_int)) (o_some (d_neg (d_var 4))) o_none) (d_var 12)) d_int) a_nil))))) ss_nil))))))) ss_nil)
    (ss_cons (s_set (i := 13) sc_look_signs.nd (d_mod (d_len rfl rfl T.b_len (a_cons (d_var 2) a_nil)) (d_var 8)))
    (ss_cons (s_if (ct_lt (d_var 13) (d_sub (d_var 8) (d_mul d_int (d_var 4)))) (ss_one (s_ret (d_call c_shake_step rfl hr (by decide) rfl (a_cons (d_var 0) (a_cons (d_var 4) (a_cons (d_var 2) (a_cons (d_var 13) a_nil))))))) ss_nil)
    (ss_one (s_ret (d_call c_own_read rfl hr (by decide) rfl (a_cons (d_mod (d_sub (d_var 13) (d_sub (d_var 8) (d_mul d_int (d_var 4)))) (d_var 4)) a_nil)))))))))
/-! ### calls_of -/
def N_calls_of : List PySem.Str := ["hand", "manner", "signs", "calls", "j", "sign"]
theorem sc_calls_of : FnScope N_calls_of ["hand", "manner", "signs"] (defScope s_calls_of) := ⟨rfl, rfl, rfl, by decide +kernel, rfl, by decide +kernel, by decide +kernel⟩
def b_calls_of : List Vl → Option Out := (sSeq (sAsg 3 (eRep (eLst (aCons (eD (.int 0)) aNil)) (eIx (eVar 1) (eD (.int 1))))) (sSeq (sFor (sZip (aCons (eCall 2 F_others (aCons (eVar 0) (aCons (eIx (eVar 1) (eD (.int 1))) aNil))) (aCons (eVar 2) aNil))) (gP [4, 5]) (sPut 3 (eSub (eD (.int 1)) (eVar 5)) (eVar 4))) (sRet (eB1 gTupL (aCons (eVar 3) aNil)))))
def F_calls_of : List Vl → Option Rt := fnD 3 3 (b_calls_of)
theorem ok_calls_of {P : Program} {w : World} {K : PySem.W.Frag} {mg : PySem.Str → Option Value} {base : Heap} (T : Top K mg) (c_others : Fn P w K mg base 1 "others" 2 F_others) : Fn P w K mg base 2 "calls_of" 3 F_calls_of := by
  obtain ⟨ft, fd, FD, hm⟩ := T.calls_of
  refine ⟨ft, fd, ["hand", "manner", "signs"], def_ok (k := 1) (f := b_calls_of) FD sc_calls_of rfl fun cdv A outer s H E hr => ?_, hm, FD.kp, FD.bindsN fun _ _ _ _ _ _ us hl => match us, hl with | [_, _, _], _ => rfl⟩
  have hu : (A.deeper (envOfC "calls_of" (defScope s_calls_of) s.heap.objs.size ft cdv)).units + 100 < cLine := by have := hr.un; omega
  exact (ss_cons (s_set (i := 3) sc_calls_of.nd (d_rep (d_lst (a_cons d_int a_nil)) (d_ix rfl (d_var 1) d_int)))
    (ss_cons (s_for PassesOwn.never rfl (i_zip rfl rfl T.b_zip (a'_cons (d_call c_others rfl hr (by decide) rfl (a_cons (d_var 0) (a_cons (d_ix rfl (d_var 1) d_int) a_nil))) (a'_cons (d_var 2) a'_nil))) (g_tup (is := [4, 5]) rfl rfl (gs_cons (i := 4) sc_calls_of.nd (gs_cons (i := 5) sc_calls_of.nd gs_nil))) (ss_one (s_put (i := 3) rfl (d_sub d_int (d_var 5)) (d_var 4))))
    (ss_one (s_ret (d_tupL rfl rfl T.b_tuple (a_cons (d_var 3) a_nil))))))
/-! ### next_signs -/
def N_next_signs : List PySem.Str := ["manner", "hand", "deed", "ahead", "reads", "word", "hands", "toggles", "shakes", "moves", "first", "rest", "step", "toggle"]
theorem sc_next_signs : FnScope N_next_signs ["manner", "hand", "deed", "ahead", "reads"] (defScope s_next_signs) := ⟨rfl, rfl, rfl, by decide +kernel, rfl, by decide +kernel, by decide +kernel⟩
def b_next_signs : List Vl → Option Out := (sSeq (sUnp [5, 6, 7, 8, 9] (eVar 0)) (sSeq (sIf (cEq (eIx (eVar 2) (eD (.int 0))) (eD (.str "look"))) (sRet (eCall 3 F_look_signs (aCons (eVar 1) (aCons (eVar 0) (aCons (eVar 4) aNil))))) sNil) (sSeq (sAsg 10 (eMul (eVar 8) (eSub (eVar 6) (eD (.int 1))))) (sSeq (sIf (cLt (eB1 gLen (aCons (eVar 4) aNil)) (eVar 10)) (sRet (eTup (aCons (eD (.str "read")) (aCons (eTup (aCons (eD (.str "sign")) (aCons (eIx (eCall 2 F_others (aCons (eVar 1) (aCons (eVar 6) aNil))) (eB1 gLen (aCons (eVar 4) aNil))) (aCons (eVar 1) aNil)))) aNil)))) sNil) (sSeq (sAsg 11 (eSl (eVar 4) (oSome (eVar 10)) oNone)) (sSeq (sIf (cAnd (cGt (eB1 gLen (aCons (eVar 11) aNil)) (eD (.int 0))) (cAnd (cIsN (eIx (eVar 11) (eNeg (eD (.int 1)))) (eD .non)) (cEq (eIx (eCall 3 F_look_signs (aCons (eVar 1) (aCons (eVar 0) (aCons (eSl (eVar 11) oNone (oSome (eNeg (eD (.int 1))))) aNil)))) (eD (.int 0))) (eD (.str "told"))))) (sRet (eTup (aCons (eD (.str "told")) (aCons (eD .non) aNil)))) sNil) (sSeq (sAsg 12 (eCall 3 F_look_signs (aCons (eVar 1) (aCons (eVar 0) (aCons (eVar 11) aNil))))) (sSeq (sIf (cNe (eIx (eVar 12) (eD (.int 0))) (eD (.str "told"))) (sRet (eVar 12)) sNil) (sSeq (sAsg 13 (eMul (eVar 7) (eMod (eAdd (eIx (eVar 3) (eVar 1)) (eD (.int 1))) (eD (.int 2))))) (sRet (eTup (aCons (eD (.str "write")) (aCons (eTup (aCons (eD (.str "own")) (aCons (eVar 1) aNil))) (aCons (eTup (aCons (eIx (eVar 2) (eD (.int 2))) (aCons (eCall 3 F_calls_of (aCons (eVar 1) (aCons (eVar 0) (aCons (eSl (eVar 4) oNone (oSome (eVar 10))) aNil)))) (aCons (eVar 13) (aCons (eIx (eVar 12) (eD (.int 1))) aNil))))) aNil))))))))))))))
def F_next_signs : List Vl → Option Rt := fnD 5 9 (b_next_signs)
theorem ok_next_signs {P : Program} {w : World} {K : PySem.W.Frag} {mg : PySem.Str → Option Value} {base : Heap} (T : Top K mg) (c_calls_of : Fn P w K mg base 2 "calls_of" 3 F_calls_of) (c_look_signs : Fn P w K mg base 3 "look_signs" 3 F_look_signs) (c_others : Fn P w K mg base 1 "others" 2 F_others) : Fn P w K mg base 4 "next_signs" 5 F_next_signs := by
  obtain ⟨ft, fd, FD, hm⟩ := T.next_signs
  refine ⟨ft, fd, ["manner", "hand", "deed", "ahead", "reads"], def_ok (k := 3) (f := b_next_signs) FD sc_next_signs rfl fun cdv A outer s H E hr => ?_, hm, FD.kp, FD.bindsN fun _ _ _ _ _ _ us hl => match us, hl with | [_, _, _, _, _], _ => rfl⟩
  have hu : (A.deeper (envOfC "next_signs" (defScope s_next_signs) s.heap.objs.size ft cdv)).units + 100 < cLine := by have := hr.un; omega
  exact (ss_cons (s_unp (is := [5, 6, 7, 8, 9]) rfl rfl (gs_cons (i := 5) sc_next_signs.nd (gs_cons (i := 6) sc_next_signs.nd (gs_cons (i := 7) sc_next_signs.nd (gs_cons (i := 8) sc_next_signs.nd (gs_cons (i := 9) sc_next_signs.nd gs_nil))))) (d_var 0))
    (ss_cons (s_if (ct_eq rfl hu (d_ix rfl (d_var 2) d_int) d_str) (ss_one (s_ret (d_call c_look_signs rfl hr (by decide) rfl (a_cons (d_var 1) (a_cons (d_var 0) (a_cons (d_var 4) a_nil)))))) ss_nil)
    (ss_cons (s_set (i := 10) sc_next_signs.nd (d_mul (d_var 8) (d_sub (d_var 6) d_int)))
    (ss_cons (s_if (ct_lt (d_len rfl rfl T.b_len (a_cons (d_var 4) a_nil)) (d_var 10)) (ss_one (s_ret (d_tup (a_cons d_str (a_cons (d_tup (a_cons d_str (a_cons (d_ix rfl (d_call c_others rfl hr (by decide) rfl (a_cons (d_var 1) (a_cons (d_var 6) a_nil))) (d_len rfl rfl T.b_len (a_cons (d_var 4) a_nil))) (a_cons (d_var 1) a_nil)))) a_nil))))) ss_nil)
    (ss_cons (s_set (i := 11) sc_next_signs.nd (d_slice rfl (d_var 4) (o_some (d_var 10)) o_none))
    (ss_cons (s_if (PW.pt (cw_and (ct_gt (d_len rfl rfl T.b_len (a_cons (d_var 11) a_nil)) d_int) (cw_and (ct_isN (d_ix rfl (d_var 11) (d_neg d_int)) d_non) (cw_and1 (ct_eq rfl hu (d_ix rfl (d_call c_look_signs rfl hr (by decide) rfl (a_cons (d_var 1) (a_cons (d_var 0) (a_cons (d_slice rfl (d_var 11) o_none (o_some (d_neg d_int))) a_nil)))) d_int) d_str))))) (ss_one (s_ret (d_tup (a_cons d_str (a_cons d_non a_nil))))) ss_nil)
    (ss_cons (s_set (i := 12) sc_next_signs.nd (d_call c_look_signs rfl hr (by decide) rfl (a_cons (d_var 1) (a_cons (d_var 0) (a_cons (d_var 11) a_nil)))))
    (ss_cons (s_if (ct_ne rfl hu (d_ix rfl (d_var 12) d_int) d_str) (ss_one (s_ret (d_var 12))) ss_nil)
    (ss_cons (s_set (i := 13) sc_next_signs.nd (d_mul (d_var 7) (d_mod (d_add (d_ix rfl (d_var 3) (d_var 1)) d_int) d_int)))
    (ss_one (s_ret (d_tup (a_cons d_str (a_cons (d_tup (a_cons d_str (a_cons (d_var 1) a_nil))) (a_cons (d_tup (a_cons (d_ix rfl (d_var 2) d_int) (a_cons (d_call c_calls_of rfl hr (by decide) rfl (a_cons (d_var 1) (a_cons (d_var 0) (a_cons (d_slice rfl (d_var 4) o_none (o_some (d_var 10))) a_nil)))) (a_cons (d_var 13) (a_cons (d_ix rfl (d_var 12) d_int) a_nil))))) a_nil)))))))))))))))
/-! ### next_step -/
def N_next_step : List PySem.Str := ["manner", "hand", "deed", "ahead", "reads"]
theorem sc_next_step : FnScope N_next_step ["manner", "hand", "deed", "ahead", "reads"] (defScope s_next_step) := ⟨rfl, rfl, rfl, by decide +kernel, rfl, by decide +kernel, by decide +kernel⟩
def b_next_step : List Vl → Option Out := (sSeq (sIf (cEq (eIx (eVar 0) (eD (.int 0))) (eD (.str "once"))) (sRet (eCall 4 F_next_once (aCons (eVar 0) (aCons (eVar 1) (aCons (eVar 2) (aCons (eVar 4) aNil)))))) sNil) (sSeq (sIf (cEq (eIx (eVar 0) (eD (.int 0))) (eD (.str "twice"))) (sRet (eCall 5 F_next_twice (aCons (eVar 0) (aCons (eVar 1) (aCons (eVar 2) (aCons (eVar 3) (aCons (eVar 4) aNil))))))) sNil) (sSeq (sIf (cEq (eIx (eVar 0) (eD (.int 0))) (eD (.str "handed"))) (sRet (eCall 5 F_next_handed (aCons (eVar 0) (aCons (eVar 1) (aCons (eVar 2) (aCons (eVar 3) (aCons (eVar 4) aNil))))))) sNil) (sSeq (sIf (cEq (eIx (eVar 0) (eD (.int 0))) (eD (.str "signs"))) (sRet (eCall 5 F_next_signs (aCons (eVar 0) (aCons (eVar 1) (aCons (eVar 2) (aCons (eVar 3) (aCons (eVar 4) aNil))))))) sNil) (sSeq (sIf (cEq (eIx (eVar 0) (eD (.int 0))) (eD (.str "shared"))) sNo sNil) sNo)))))
def F_next_step : List Vl → Option Rt := fnD 5 0 (b_next_step)
theorem ok_next_step {P : Program} {w : World} {K : PySem.W.Frag} {mg : PySem.Str → Option Value} {base : Heap} (T : Top K mg) (c_next_handed : Fn P w K mg base 4 "next_handed" 5 F_next_handed) (c_next_once : Fn P w K mg base 2 "next_once" 4 F_next_once) (c_next_signs : Fn P w K mg base 4 "next_signs" 5 F_next_signs) (c_next_twice : Fn P w K mg base 3 "next_twice" 5 F_next_twice) : Fn P w K mg base 5 "next_step" 5 F_next_step := by
  obtain ⟨ft, fd, FD, hm⟩ := T.next_step
  refine ⟨ft, fd, ["manner", "hand", "deed", "ahead", "reads"], def_ok (k := 4) (f := b_next_step) FD sc_next_step rfl fun cdv A outer s H E hr => ?_, hm, FD.kp, FD.bindsN fun _ _ _ _ _ _ us hl => match us, hl with | [_, _, _, _, _], _ => rfl⟩
  have hu : (A.deeper (envOfC "next_step" (defScope s_next_step) s.heap.objs.size ft cdv)).units + 100 < cLine := by have := hr.un; omega
  exact (ss_cons (s_if (ct_eq rfl hu (d_ix rfl (d_var 0) d_int) d_str) (ss_one (s_ret (d_call c_next_once rfl hr (by decide) rfl (a_cons (d_var 0) (a_cons (d_var 1) (a_cons (d_var 2) (a_cons (d_var 4) a_nil))))))) ss_nil)
    (ss_cons (s_if (ct_eq rfl hu (d_ix rfl (d_var 0) d_int) d_str) (ss_one (s_ret (d_call c_next_twice rfl hr (by decide) rfl (a_cons (d_var 0) (a_cons (d_var 1) (a_cons (d_var 2) (a_cons (d_var 3) (a_cons (d_var 4) a_nil)))))))) ss_nil)
    (ss_cons (s_if (ct_eq rfl hu (d_ix rfl (d_var 0) d_int) d_str) (ss_one (s_ret (d_call c_next_handed rfl hr (by decide) rfl (a_cons (d_var 0) (a_cons (d_var 1) (a_cons (d_var 2) (a_cons (d_var 3) (a_cons (d_var 4) a_nil)))))))) ss_nil)
    (ss_cons (s_if (ct_eq rfl hu (d_ix rfl (d_var 0) d_int) d_str) (ss_one (s_ret (d_call c_next_signs rfl hr (by decide) rfl (a_cons (d_var 0) (a_cons (d_var 1) (a_cons (d_var 2) (a_cons (d_var 3) (a_cons (d_var 4) a_nil)))))))) ss_nil)
    (ss_cons (s_if (ct_eq rfl hu (d_ix rfl (d_var 0) d_int) d_str) ss_never ss_nil)
    (ss_one s_never))))))
/-! ### zeros -/
def N_zeros : List PySem.Str := ["many"]
theorem sc_zeros : FnScope N_zeros ["many"] (defScope s_zeros) := ⟨rfl, rfl, rfl, by decide +kernel, rfl, by decide +kernel, by decide +kernel⟩
def b_zeros : List Vl → Option Out := (sRet (eRepT (eTup (aCons (eD (.int 0)) aNil)) (eVar 0)))
def F_zeros : List Vl → Option Rt := fnD 1 0 (b_zeros)
theorem ok_zeros {P : Program} {w : World} {K : PySem.W.Frag} {mg : PySem.Str → Option Value} {base : Heap} (T : Top K mg) : Fn P w K mg base 1 "zeros" 1 F_zeros := by
  obtain ⟨ft, fd, FD, hm⟩ := T.zeros
  refine ⟨ft, fd, ["many"], def_ok (k := 0) (f := b_zeros) FD sc_zeros rfl fun cdv A outer s H E hr => ?_, hm, FD.kp, FD.bindsN fun _ _ _ _ _ _ us hl => match us, hl with | [_], _ => rfl⟩
  have hu : (A.deeper (envOfC "zeros" (defScope s_zeros) s.heap.objs.size ft cdv)).units + 100 < cLine := by have := hr.un; omega
  exact (ss_one (s_ret (d_repT rfl (d_tup (a_cons d_int a_nil)) (d_var 0))))
/-! ### between -/
def N_between : List PySem.Str := ["word", "hands", "found", "i", "j"]
theorem sc_between : FnScope N_between ["word", "hands"] (defScope s_between) := ⟨rfl, rfl, rfl, by decide +kernel, rfl, by decide +kernel, by decide +kernel⟩
def b_between : List Vl → Option Out := (sSeq (sAsg 2 (eLst aNil)) (sSeq (sFor (sRng1 (aCons (eVar 1) aNil)) (gN 3) (sExt 2 (aCons (eLc (sRng1 (aCons (eVar 1) aNil)) (gN 4) (cNe (eVar 4) (eVar 3)) (eTup (aCons (eTup (aCons (eVar 0) (aCons (eVar 3) (aCons (eVar 4) aNil)))) (aCons (eD (.int 0)) aNil))) [4]) aNil))) (sRet (eVar 2))))
def F_between : List Vl → Option Rt := fnD 2 3 (b_between)
theorem ok_between {P : Program} {w : World} {K : PySem.W.Frag} {mg : PySem.Str → Option Value} {base : Heap} (T : Top K mg) : Fn P w K mg base 1 "between" 2 F_between := by
  obtain ⟨ft, fd, FD, hm⟩ := T.between
  refine ⟨ft, fd, ["word", "hands"], def_ok (k := 0) (f := b_between) FD sc_between rfl fun cdv A outer s H E hr => ?_, hm, FD.kp, FD.bindsN fun _ _ _ _ _ _ us hl => match us, hl with | [_, _], _ => rfl⟩
  have hu : (A.deeper (envOfC "between" (defScope s_between) s.heap.objs.size ft cdv)).units + 100 < cLine := by have := hr.un; omega
  exact (ss_cons (s_set (i := 2) sc_between.nd (d_lst a_nil))
    (ss_cons (s_for PassesOwn.never rfl (i_rng1 rfl T.b_range (a_cons (d_var 1) a_nil)) (g_name (i := 3) sc_between.nd) (ss_one (s_ext (i := 2) rfl (a_cons (d_lc rfl sc_between.nd (i_rng1 rfl T.b_range (a_cons (d_var 1) a_nil)) (blkOk_by (own := [("j", 4)]) rfl) rfl (ow := false) (idx := [4]) (by decide) (fun _ _ _ _ _ => (g_name (i := 4) sc_between.nd)) (fun _ _ _ _ _ => (ts_one (ct_ne rfl hu (d_var 4) (d_var 3)))) (fun _ _ _ _ _ => (d_tup (a_cons (d_tup (a_cons (d_var 0) (a_cons (d_var 3) (a_cons (d_var 4) a_nil)))) (a_cons d_int a_nil))))) a_nil))))
    (ss_one (s_ret (d_var 2)))))
/-! ### first_own -/
def N_first_own : List PySem.Str := ["manner"]
theorem sc_first_own : FnScope N_first_own ["manner"] (defScope s_first_own) := ⟨rfl, rfl, rfl, by decide +kernel, rfl, by decide +kernel, by decide +kernel⟩
def b_first_own : List Vl → Option Out := (sSeq (sIf (cEq (eIx (eVar 0) (eD (.int 0))) (eD (.str "once"))) (sRet (eD (.int 0))) sNil) (sSeq (sIf (cEq (eIx (eVar 0) (eD (.int 0))) (eD (.str "twice"))) (sRet (eTup (aCons (eD (.int 0)) (aCons (eD (.int 0)) aNil)))) sNil) (sSeq (sIf (cEq (eIx (eVar 0) (eD (.int 0))) (eD (.str "handed"))) (sRet (eTup (aCons (eD (.int 0)) (aCons (eD (.int 0)) (aCons (eCall 1 F_zeros (aCons (eIx (eVar 0) (eD (.int 1))) aNil)) aNil))))) sNil) (sRet (eTup (aCons (eD (.int 0)) (aCons (eCall 1 F_zeros (aCons (eIx (eVar 0) (eD (.int 1))) aNil)) (aCons (eD (.int 0)) (aCons (eCall 1 F_zeros (aCons (eIx (eVar 0) (eD (.int 1))) aNil)) aNil)))))))))
def F_first_own : List Vl → Option Rt := fnD 1 0 (b_first_own)
theorem ok_first_own {P : Program} {w : World} {K : PySem.W.Frag} {mg : PySem.Str → Option Value} {base : Heap} (T : Top K mg) (c_zeros : Fn P w K mg base 1 "zeros" 1 F_zeros) : Fn P w K mg base 2 "first_own" 1 F_first_own := by
  obtain ⟨ft, fd, FD, hm⟩ := T.first_own
  refine ⟨ft, fd, ["manner"], def_ok (k := 1) (f := b_first_own) FD sc_first_own rfl fun cdv A outer s H E hr => ?_, hm, FD.kp, FD.bindsN fun _ _ _ _ _ _ us hl => match us, hl with | [_], _ => rfl⟩
  have hu : (A.deeper (envOfC "first_own" (defScope s_first_own) s.heap.objs.size ft cdv)).units + 100 < cLine := by have := hr.un; omega
  exact (ss_cons (s_if (ct_eq rfl hu (d_ix rfl (d_var 0) d_int) d_str) (ss_one (s_ret d_int)) ss_nil)
    (ss_cons (s_if (ct_eq rfl hu (d_ix rfl (d_var 0) d_int) d_str) (ss_one (s_ret (d_tup (a_cons d_int (a_cons d_int a_nil))))) ss_nil)
    (ss_cons (s_if (ct_eq rfl hu (d_ix rfl (d_var 0) d_int) d_str) (ss_one (s_ret (d_tup (a_cons d_int (a_cons d_int (a_cons (d_call c_zeros rfl hr (by decide) rfl (a_cons (d_ix rfl (d_var 0) d_int) a_nil)) a_nil)))))) ss_nil)
    (ss_one (s_ret (d_tup (a_cons d_int (a_cons (d_call c_zeros rfl hr (by decide) rfl (a_cons (d_ix rfl (d_var 0) d_int) a_nil)) (a_cons d_int (a_cons (d_call c_zeros rfl hr (by decide) rfl (a_cons (d_ix rfl (d_var 0) d_int) a_nil)) a_nil))))))))))
/-! ### first_boxes -/
def N_first_boxes : List PySem.Str := ["manner", "hands", "found", "b", "h", "k"]
theorem sc_first_boxes : FnScope N_first_boxes ["manner"] (defScope s_first_boxes) := ⟨rfl, rfl, rfl, by decide +kernel, rfl, by decide +kernel, by decide +kernel⟩
def b_first_boxes : List Vl → Option Out := (sSeq (sAsg 1 (eCall 1 F_hands_of (aCons (eVar 0) aNil))) (sSeq (sIf (cEq (eIx (eVar 0) (eD (.int 0))) (eD (.str "tables"))) sNo sNil) (sSeq (sIf (cEq (eIx (eVar 0) (eD (.int 0))) (eD (.str "shared"))) sNo sNil) (sSeq (sAsg 2 (eLc (sRng1 (aCons (eVar 1) aNil)) (gN 4) cYes (eTup (aCons (eTup (aCons (eD (.str "own")) (aCons (eVar 4) aNil))) (aCons (eCall 1 F_first_own (aCons (eVar 0) aNil)) aNil))) [4])) (sSeq (sIf (cAnd (cEq (eIx (eVar 0) (eD (.int 0))) (eD (.str "signs"))) (cEq (eCall 1 F_shakes_of (aCons (eVar 0) aNil)) (eD (.int 1)))) (sExt 2 (aCons (eCall 2 F_between (aCons (eD (.str "sign")) (aCons (eVar 1) aNil))) aNil)) sNil) (sRet (eB1 gTupP (aCons (eB1 gSortP (aCons (eVar 2) aNil)) aNil))))))))
def F_first_boxes : List Vl → Option Rt := fnD 1 5 (b_first_boxes)
theorem ok_first_boxes {P : Program} {w : World} {K : PySem.W.Frag} {mg : PySem.Str → Option Value} {base : Heap} (T : Top K mg) (c_between : Fn P w K mg base 1 "between" 2 F_between) (c_first_own : Fn P w K mg base 2 "first_own" 1 F_first_own) (c_hands_of : Fn P w K mg base 1 "hands_of" 1 F_hands_of) (c_shakes_of : Fn P w K mg base 1 "shakes_of" 1 F_shakes_of) : Fn P w K mg base 3 "first_boxes" 1 F_first_boxes := by
  obtain ⟨ft, fd, FD, hm⟩ := T.first_boxes
  refine ⟨ft, fd, ["manner"], def_ok (k := 2) (f := b_first_boxes) FD sc_first_boxes rfl fun cdv A outer s H E hr => ?_, hm, FD.kp, FD.bindsN fun _ _ _ _ _ _ us hl => match us, hl with | [_], _ => rfl⟩
  have hu : (A.deeper (envOfC "first_boxes" (defScope s_first_boxes) s.heap.objs.size ft cdv)).units + 100 < cLine := by have := hr.un; omega
  exact (ss_cons (s_set (i := 1) sc_first_boxes.nd (d_call c_hands_of rfl hr (by decide) rfl (a_cons (d_var 0) a_nil)))
    (ss_cons (s_if (ct_eq rfl hu (d_ix rfl (d_var 0) d_int) d_str) ss_never ss_nil)
    (ss_cons (s_if (ct_eq rfl hu (d_ix rfl (d_var 0) d_int) d_str) ss_never ss_nil)
    (ss_cons (s_setLc (i := 2) rfl sc_first_boxes.nd rfl rfl (sw_true rfl rfl rfl rfl) (i_rng1 rfl T.b_range (a_cons (d_var 1) a_nil)) (blkOk_by (own := [("h", 4)]) rfl) rfl (ow := false) (idx := [4]) (by decide) (fun _ _ _ _ _ => (g_name (i := 4) sc_first_boxes.nd)) (fun _ _ _ _ _ => ts_nil) (fun _ _ _ _ _ => (d_tup (a_cons (d_tup (a_cons d_str (a_cons (d_var 4) a_nil))) (a_cons (d_call c_first_own rfl hr (by decide) rfl (a_cons (d_var 0) a_nil)) a_nil)))))
    (ss_cons (s_if (PW.pt (cw_and (ct_eq rfl hu (d_ix rfl (d_var 0) d_int) d_str) (cw_and1 (ct_eq rfl hu (d_call c_shakes_of rfl hr (by decide) rfl (a_cons (d_var 0) a_nil)) d_int)))) (ss_one (s_ext (i := 2) rfl (a_cons (d_call c_between rfl hr (by decide) rfl (a_cons d_str (a_cons (d_var 1) a_nil))) a_nil))) ss_nil)
    (ss_one (s_ret (d_tupP rfl rfl T.b_tuple (a_cons (d_sortP rfl hu rfl T.b_sorted (a_cons (d_var 2) a_nil)) a_nil)))))))))
/-! ### first_row -/
def N_first_row : List PySem.Str := []
theorem sc_first_row : FnScope N_first_row [] (defScope s_first_row) := ⟨rfl, rfl, rfl, by decide +kernel, rfl, by decide +kernel, by decide +kernel⟩
def b_first_row : List Vl → Option Out := (sRet (eTup (aCons (eTup aNil) (aCons (eTup aNil) (aCons (eTup aNil) aNil)))))
def F_first_row : List Vl → Option Rt := fnD 0 0 (b_first_row)
theorem ok_first_row {P : Program} {w : World} {K : PySem.W.Frag} {mg : PySem.Str → Option Value} {base : Heap} (T : Top K mg) : Fn P w K mg base 1 "first_row" 0 F_first_row := by
  obtain ⟨ft, fd, FD, hm⟩ := T.first_row
  refine ⟨ft, fd, [], def_ok (k := 0) (f := b_first_row) FD sc_first_row rfl fun cdv A outer s H E hr => ?_, hm, FD.kp, FD.bindsN fun _ _ _ _ _ _ us hl => match us, hl with | [], _ => rfl⟩
  have hu : (A.deeper (envOfC "first_row" (defScope s_first_row) s.heap.objs.size ft cdv)).units + 100 < cLine := by have := hr.un; omega
  exact (ss_one (s_ret (d_tup (a_cons (d_tup a_nil) (a_cons (d_tup a_nil) (a_cons (d_tup a_nil) a_nil))))))
/-! ### begun -/
def N_begun : List PySem.Str := ["manner", "jobs", "job"]
theorem sc_begun : FnScope N_begun ["manner", "jobs"] (defScope s_begun) := ⟨rfl, rfl, rfl, by decide +kernel, rfl, by decide +kernel, by decide +kernel⟩
def b_begun : List Vl → Option Out := (sRet (eTup (aCons (eCall 1 F_first_boxes (aCons (eVar 0) aNil)) (aCons (eB1 gTupL (aCons (eLc (sTup (eVar 1)) (gN 2) cYes (eCall 0 F_first_row aNil) [2]) aNil)) aNil))))
def F_begun : List Vl → Option Rt := fnD 2 1 (b_begun)
theorem ok_begun {P : Program} {w : World} {K : PySem.W.Frag} {mg : PySem.Str → Option Value} {base : Heap} (T : Top K mg) (c_first_boxes : Fn P w K mg base 3 "first_boxes" 1 F_first_boxes) (c_first_row : Fn P w K mg base 1 "first_row" 0 F_first_row) : Fn P w K mg base 4 "begun" 2 F_begun := by
  obtain ⟨ft, fd, FD, hm⟩ := T.begun
  refine ⟨ft, fd, ["manner", "jobs"], def_ok (k := 3) (f := b_begun) FD sc_begun rfl fun cdv A outer s H E hr => ?_, hm, FD.kp, FD.bindsN fun _ _ _ _ _ _ us hl => match us, hl with | [_, _], _ => rfl⟩
  have hu : (A.deeper (envOfC "begun" (defScope s_begun) s.heap.objs.size ft cdv)).units + 100 < cLine := by have := hr.un; omega
  exact (ss_one (s_ret (d_tup (a_cons (d_call c_first_boxes rfl hr (by decide) rfl (a_cons (d_var 0) a_nil)) (a_cons (d_tupL rfl rfl T.b_tuple (a_cons (d_lc rfl sc_begun.nd (i_tup rfl (d_var 1)) (blkOk_by (own := [("job", 2)]) rfl) rfl (ow := false) (idx := [2]) (by decide) (fun _ _ _ _ _ => (g_name (i := 2) sc_begun.nd)) (fun _ _ _ _ _ => ts_nil) (fun _ _ _ _ _ => (d_call0 c_first_row rfl hr (by decide) rfl))) a_nil)) a_nil)))))
/-! ### state_of -/
def N_state_of : List PySem.Str := ["manner", "room", "contents", "sort", "found", "content", "place"]
theorem sc_state_of : FnScope N_state_of ["manner", "room"] (defScope s_state_of) := ⟨rfl, rfl, rfl, by decide +kernel, rfl, by decide +kernel, by decide +kernel⟩
def b_state_of : List Vl → Option Out := (sSeq (sAsg 2 (eB1 gDict (aCons (eIx (eVar 1) (eD (.int 0))) aNil))) (sSeq (sAsg 3 (eD (.str "own"))) (sSeq (sIf (cEq (eIx (eVar 0) (eD (.int 0))) (eD (.str "shared"))) (sAsg 3 (eD (.str "box"))) sNil) (sSeq (sAsg 4 (eLc (sRng1 (aCons (eCall 1 F_places_of (aCons (eVar 0) aNil)) aNil)) (gN 6) cYes (eKey (eVar 2) (eTup (aCons (eVar 3) (aCons (eVar 6) aNil)))) [6])) (sSeq (sIf (cEq (eIx (eVar 0) (eD (.int 0))) (eD (.str "once"))) (sRet (eB1 gTupL (aCons (eVar 4) aNil))) sNil) (sRet (eB1 gTupL (aCons (eLc (sLst (eVar 4)) (gN 5) cYes (eIx (eVar 5) (eD (.int 0))) [5]) aNil))))))))
def F_state_of : List Vl → Option Rt := fnD 2 5 (b_state_of)
theorem ok_state_of {P : Program} {w : World} {K : PySem.W.Frag} {mg : PySem.Str → Option Value} {base : Heap} (T : Top K mg) (c_places_of : Fn P w K mg base 1 "places_of" 1 F_places_of) : Fn P w K mg base 2 "state_of" 2 F_state_of := by
  obtain ⟨ft, fd, FD, hm⟩ := T.state_of
  refine ⟨ft, fd, ["manner", "room"], def_ok (k := 1) (f := b_state_of) FD sc_state_of rfl fun cdv A outer s H E hr => ?_, hm, FD.kp, FD.bindsN fun _ _ _ _ _ _ us hl => match us, hl with | [_, _], _ => rfl⟩
  have hu : (A.deeper (envOfC "state_of" (defScope s_state_of) s.heap.objs.size ft cdv)).units + 100 < cLine := by have := hr.un; omega
  exact (ss_cons (s_set (i := 2) sc_state_of.nd (d_dict rfl rfl hu rfl T.b_dict (a_cons (d_ix rfl (d_var 1) d_int) a_nil)))
    (ss_cons (s_set (i := 3) sc_state_of.nd d_str)
    (ss_cons (s_if (ct_eq rfl hu (d_ix rfl (d_var 0) d_int) d_str) (ss_one (s_set (i := 3) sc_state_of.nd d_str)) ss_nil)
    (ss_cons (s_setLc (i := 4) rfl sc_state_of.nd rfl rfl (sw_true rfl rfl rfl rfl) (i_rng1 rfl T.b_range (a_cons (d_call c_places_of rfl hr (by decide) rfl (a_cons (d_var 0) a_nil)) a_nil)) (blkOk_by (own := [("place", 6)]) rfl) rfl (ow := false) (idx := [6]) (by decide) (fun _ _ _ _ _ => (g_name (i := 6) sc_state_of.nd)) (fun _ _ _ _ _ => ts_nil) (fun _ _ _ _ _ => (d_key hu (d_var 2) (d_tup (a_cons (d_var 3) (a_cons (d_var 6) a_nil))))))
    (ss_cons (s_if (ct_eq rfl hu (d_ix rfl (d_var 0) d_int) d_str) (ss_one (s_ret (d_tupL rfl rfl T.b_tuple (a_cons (d_var 4) a_nil)))) ss_nil)
    (ss_one (s_ret (d_tupL rfl rfl T.b_tuple (a_cons (d_lc rfl sc_state_of.nd (i_lst rfl (d_var 4)) (blkOk_by (own := [("content", 5)]) rfl) rfl (ow := false) (idx := [5]) (by decide) (fun _ _ _ _ _ => (g_name (i := 5) sc_state_of.nd)) (fun _ _ _ _ _ => ts_nil) (fun _ _ _ _ _ => (d_ix rfl (d_var 5) d_int))) a_nil)))))))))
/-! ### deed_there -/
def N_deed_there : List PySem.Str := ["jobs", "room", "hand"]
theorem sc_deed_there : FnScope N_deed_there ["jobs", "room", "hand"] (defScope s_deed_there) := ⟨rfl, rfl, rfl, by decide +kernel, rfl, by decide +kernel, by decide +kernel⟩
def b_deed_there : List Vl → Option Out := (sSeq (sIf (cNot (cCh (eD (.int 0)) (eVar 2) (eB1 gLen (aCons (eVar 0) aNil)))) (sRet (eD .non)) sNil) (sRet (eCall 3 F_next_deed (aCons (eVar 2) (aCons (eIx (eVar 0) (eVar 2)) (aCons (eIx (eIx (eIx (eVar 1) (eD (.int 1))) (eVar 2)) (eD (.int 0))) aNil))))))
def F_deed_there : List Vl → Option Rt := fnD 3 0 (b_deed_there)
theorem ok_deed_there {P : Program} {w : World} {K : PySem.W.Frag} {mg : PySem.Str → Option Value} {base : Heap} (T : Top K mg) (c_next_deed : Fn P w K mg base 4 "next_deed" 3 F_next_deed) : Fn P w K mg base 5 "deed_there" 3 F_deed_there := by
  obtain ⟨ft, fd, FD, hm⟩ := T.deed_there
  refine ⟨ft, fd, ["jobs", "room", "hand"], def_ok (k := 4) (f := b_deed_there) FD sc_deed_there rfl fun cdv A outer s H E hr => ?_, hm, FD.kp, FD.bindsN fun _ _ _ _ _ _ us hl => match us, hl with | [_, _, _], _ => rfl⟩
  have hu : (A.deeper (envOfC "deed_there" (defScope s_deed_there) s.heap.objs.size ft cdv)).units + 100 < cLine := by have := hr.un; omega
  exact (ss_cons (s_if (ct_not (ct_chain d_int (d_var 2) (d_len rfl rfl T.b_len (a_cons (d_var 0) a_nil)))) (ss_one (s_ret d_non)) ss_nil)
    (ss_one (s_ret (d_call c_next_deed rfl hr (by decide) rfl (a_cons (d_var 2) (a_cons (d_ix rfl (d_var 0) (d_var 2)) (a_cons (d_ix rfl (d_ix rfl (d_ix rfl (d_var 1) d_int) (d_var 2)) d_int) a_nil)))))))
/-! ### may_step -/
def N_may_step : List PySem.Str := ["manner", "jobs", "room", "hand"]
theorem sc_may_step : FnScope N_may_step ["manner", "jobs", "room"] (defScope s_may_step) := ⟨rfl, rfl, rfl, by decide +kernel, rfl, by decide +kernel, by decide +kernel⟩
def b_may_step : List Vl → Option Out := (sRet (eLc (sRng1 (aCons (eIx (eVar 0) (eD (.int 1))) aNil)) (gN 3) (cNotN (eCall 3 F_deed_there (aCons (eVar 1) (aCons (eVar 2) (aCons (eVar 3) aNil)))) (eD .non)) (eVar 3) [3]))
def F_may_step : List Vl → Option Rt := fnD 3 1 (b_may_step)
theorem ok_may_step {P : Program} {w : World} {K : PySem.W.Frag} {mg : PySem.Str → Option Value} {base : Heap} (T : Top K mg) (c_deed_there : Fn P w K mg base 5 "deed_there" 3 F_deed_there) : Fn P w K mg base 6 "may_step" 3 F_may_step := by
  obtain ⟨ft, fd, FD, hm⟩ := T.may_step
  refine ⟨ft, fd, ["manner", "jobs", "room"], def_ok (k := 5) (f := b_may_step) FD sc_may_step rfl fun cdv A outer s H E hr => ?_, hm, FD.kp, FD.bindsN fun _ _ _ _ _ _ us hl => match us, hl with | [_, _, _], _ => rfl⟩
  have hu : (A.deeper (envOfC "may_step" (defScope s_may_step) s.heap.objs.size ft cdv)).units + 100 < cLine := by have := hr.un; omega
  exact (ss_one (s_ret (d_lc rfl sc_may_step.nd (i_rng1 rfl T.b_range (a_cons (d_ix rfl (d_var 0) d_int) a_nil)) (blkOk_by (own := [("hand", 3)]) rfl) rfl (ow := false) (idx := [3]) (by decide) (fun _ _ _ _ _ => (g_name (i := 3) sc_may_step.nd)) (fun _ _ _ _ _ => (ts_one (ct_notN (d_call c_deed_there rfl hr (by decide) rfl (a_cons (d_var 1) (a_cons (d_var 2) (a_cons (d_var 3) a_nil)))) d_non))) (fun _ _ _ _ _ => (d_var 3)))))
/-! ### boxes_behind -/
def N_boxes_behind : List PySem.Str := ["boxes", "step", "box", "content"]
theorem sc_boxes_behind : FnScope N_boxes_behind ["boxes", "step"] (defScope s_boxes_behind) := ⟨rfl, rfl, rfl, by decide +kernel, rfl, by decide +kernel, by decide +kernel⟩
def b_boxes_behind : List Vl → Option Out := (sSeq (sIf (cEq (eIx (eVar 1) (eD (.int 0))) (eD (.str "read"))) (sRet (eVar 0)) sNil) (sRet (eB1 gTupP (aCons (eLc (sTup (eVar 0)) (gP [2, 3]) cYes (eTup (aCons (eVar 2) (aCons (eIf (cEq (eVar 2) (eIx (eVar 1) (eD (.int 1)))) (eIx (eVar 1) (eD (.int 2))) (eVar 3)) aNil))) [2, 3]) aNil))))
def F_boxes_behind : List Vl → Option Rt := fnD 2 2 (b_boxes_behind)
theorem ok_boxes_behind {P : Program} {w : World} {K : PySem.W.Frag} {mg : PySem.Str → Option Value} {base : Heap} (T : Top K mg) : Fn P w K mg base 1 "boxes_behind" 2 F_boxes_behind := by
  obtain ⟨ft, fd, FD, hm⟩ := T.boxes_behind
  refine ⟨ft, fd, ["boxes", "step"], def_ok (k := 0) (f := b_boxes_behind) FD sc_boxes_behind rfl fun cdv A outer s H E hr => ?_, hm, FD.kp, FD.bindsN fun _ _ _ _ _ _ us hl => match us, hl with | [_, _], _ => rfl⟩
  have hu : (A.deeper (envOfC "boxes_behind" (defScope s_boxes_behind) s.heap.objs.size ft cdv)).units + 100 < cLine := by have := hr.un; omega
  exact (ss_cons (s_if (ct_eq rfl hu (d_ix rfl (d_var 1) d_int) d_str) (ss_one (s_ret (d_var 0))) ss_nil)
    (ss_one (s_ret (d_tupP rfl rfl T.b_tuple (a_cons (d_lc rfl sc_boxes_behind.nd (i_tup rfl (d_var 0)) (blkOk_by (own := [("box", 2), ("content", 3)]) rfl) rfl (ow := false) (idx := [2, 3]) (by decide) (fun _ _ _ _ _ => (g_tup (is := [2, 3]) rfl rfl (gs_cons (i := 2) sc_boxes_behind.nd (gs_cons (i := 3) sc_boxes_behind.nd gs_nil)))) (fun _ _ _ _ _ => ts_nil) (fun _ _ _ _ _ => (d_tup (a_cons (d_var 2) (a_cons (d_ifE (ct_eq rfl hu (d_var 2) (d_ix rfl (d_var 1) d_int)) (d_ix rfl (d_var 1) d_int) (d_var 3)) a_nil))))) a_nil)))))
/-! ### reading -/
def N_reading : List PySem.Str := ["boxes", "step"]
theorem sc_reading : FnScope N_reading ["boxes", "step"] (defScope s_reading) := ⟨rfl, rfl, rfl, by decide +kernel, rfl, by decide +kernel, by decide +kernel⟩
def b_reading : List Vl → Option Out := (sSeq (sIf (cEq (eIx (eVar 1) (eD (.int 0))) (eD (.str "read"))) (sRet (eKey (eB1 gDict (aCons (eVar 0) aNil)) (eIx (eVar 1) (eD (.int 1))))) sNil) (sRet (eD .non)))
def F_reading : List Vl → Option Rt := fnD 2 0 (b_reading)
theorem ok_reading {P : Program} {w : World} {K : PySem.W.Frag} {mg : PySem.Str → Option Value} {base : Heap} (T : Top K mg) : Fn P w K mg base 1 "reading" 2 F_reading := by
  obtain ⟨ft, fd, FD, hm⟩ := T.reading
  refine ⟨ft, fd, ["boxes", "step"], def_ok (k := 0) (f := b_reading) FD sc_reading rfl fun cdv A outer s H E hr => ?_, hm, FD.kp, FD.bindsN fun _ _ _ _ _ _ us hl => match us, hl with | [_, _], _ => rfl⟩
  have hu : (A.deeper (envOfC "reading" (defScope s_reading) s.heap.objs.size ft cdv)).units + 100 < cLine := by have := hr.un; omega
  exact (ss_cons (s_if (ct_eq rfl hu (d_ix rfl (d_var 1) d_int) d_str) (ss_one (s_ret (d_key hu (d_dict rfl rfl hu rfl T.b_dict (a_cons (d_var 0) a_nil)) (d_ix rfl (d_var 1) d_int)))) ss_nil)
    (ss_one (s_ret d_non)))
/-! ### with_state -/
def N_with_state : List PySem.Str := ["row", "state", "told", "reads", "since"]
theorem sc_with_state : FnScope N_with_state ["row", "state"] (defScope s_with_state) := ⟨rfl, rfl, rfl, by decide +kernel, rfl, by decide +kernel, by decide +kernel⟩
def b_with_state : List Vl → Option Out := (sSeq (sUnp [2, 3, 4] (eVar 0)) (sSeq (sIf (cOr (cEq (eVar 4) (eTup aNil)) (cIn (eVar 1) (eVar 4))) (sRet (eVar 0)) sNil) (sRet (eTup (aCons (eVar 2) (aCons (eVar 3) (aCons (eCat (eVar 4) (eTup (aCons (eVar 1) aNil))) aNil)))))))
def F_with_state : List Vl → Option Rt := fnD 2 3 (b_with_state)
theorem ok_with_state {P : Program} {w : World} {K : PySem.W.Frag} {mg : PySem.Str → Option Value} {base : Heap} (T : Top K mg) : Fn P w K mg base 1 "with_state" 2 F_with_state := by
  obtain ⟨ft, fd, FD, hm⟩ := T.with_state
  refine ⟨ft, fd, ["row", "state"], def_ok (k := 0) (f := b_with_state) FD sc_with_state rfl fun cdv A outer s H E hr => ?_, hm, FD.kp, FD.bindsN fun _ _ _ _ _ _ us hl => match us, hl with | [_, _], _ => rfl⟩
  have hu : (A.deeper (envOfC "with_state" (defScope s_with_state) s.heap.objs.size ft cdv)).units + 100 < cLine := by have := hr.un; omega
  exact (ss_cons (s_unp (is := [2, 3, 4]) rfl rfl (gs_cons (i := 2) sc_with_state.nd (gs_cons (i := 3) sc_with_state.nd (gs_cons (i := 4) sc_with_state.nd gs_nil))) (d_var 0))
    (ss_cons (s_if (PW.pt (cw_or (ct_eq rfl hu (d_var 4) (d_tup a_nil)) (cw_or1 (ct_in rfl hu (d_var 1) (d_var 4))))) (ss_one (s_ret (d_var 0))) ss_nil)
    (ss_one (s_ret (d_tup (a_cons (d_var 2) (a_cons (d_var 3) (a_cons (d_cat rfl (d_var 4) (d_tup (a_cons (d_var 1) a_nil))) a_nil))))))))
/-! ### since_begin -/
def N_since_begin : List PySem.Str := ["manner", "room", "hand", "deed", "told", "reads", "since"]
theorem sc_since_begin : FnScope N_since_begin ["manner", "room", "hand", "deed"] (defScope s_since_begin) := ⟨rfl, rfl, rfl, by decide +kernel, rfl, by decide +kernel, by decide +kernel⟩
def b_since_begin : List Vl → Option Out := (sSeq (sUnp [4, 5, 6] (eIx (eIx (eVar 1) (eD (.int 1))) (eVar 2))) (sSeq (sIf (cOr (cEq (eIx (eVar 3) (eD (.int 0))) (eD (.str "put"))) (cEq (eIx (eVar 0) (eD (.int 0))) (eD (.str "tables")))) (sRet (eTup aNil)) sNil) (sSeq (sIf (cEq (eVar 5) (eTup aNil)) (sRet (eTup (aCons (eCall 2 F_state_of (aCons (eVar 0) (aCons (eVar 1) aNil))) aNil))) sNil) (sRet (eVar 6)))))
def F_since_begin : List Vl → Option Rt := fnD 4 3 (b_since_begin)
theorem ok_since_begin {P : Program} {w : World} {K : PySem.W.Frag} {mg : PySem.Str → Option Value} {base : Heap} (T : Top K mg) (c_state_of : Fn P w K mg base 2 "state_of" 2 F_state_of) : Fn P w K mg base 3 "since_begin" 4 F_since_begin := by
  obtain ⟨ft, fd, FD, hm⟩ := T.since_begin
  refine ⟨ft, fd, ["manner", "room", "hand", "deed"], def_ok (k := 2) (f := b_since_begin) FD sc_since_begin rfl fun cdv A outer s H E hr => ?_, hm, FD.kp, FD.bindsN fun _ _ _ _ _ _ us hl => match us, hl with | [_, _, _, _], _ => rfl⟩
  have hu : (A.deeper (envOfC "since_begin" (defScope s_since_begin) s.heap.objs.size ft cdv)).units + 100 < cLine := by have := hr.un; omega
  exact (ss_cons (s_unp (is := [4, 5, 6]) rfl rfl (gs_cons (i := 4) sc_since_begin.nd (gs_cons (i := 5) sc_since_begin.nd (gs_cons (i := 6) sc_since_begin.nd gs_nil))) (d_ix rfl (d_ix rfl (d_var 1) d_int) (d_var 2)))
    (ss_cons (s_if (PW.pt (cw_or (ct_eq rfl hu (d_ix rfl (d_var 3) d_int) d_str) (cw_or1 (ct_eq rfl hu (d_ix rfl (d_var 0) d_int) d_str)))) (ss_one (s_ret (d_tup a_nil))) ss_nil)
    (ss_cons (s_if (ct_eq rfl hu (d_var 5) (d_tup a_nil)) (ss_one (s_ret (d_tup (a_cons (d_call c_state_of rfl hr (by decide) rfl (a_cons (d_var 0) (a_cons (d_var 1) a_nil))) a_nil)))) ss_nil)
    (ss_one (s_ret (d_var 6))))))
/-! ### own_row -/
def N_own_row : List PySem.Str := ["manner", "jobs", "room", "hand", "deed", "told", "reads", "since", "ahead", "step", "last"]
theorem sc_own_row : FnScope N_own_row ["manner", "jobs", "room", "hand", "deed"] (defScope s_own_row) := ⟨rfl, rfl, rfl, by decide +kernel, rfl, by decide +kernel, by decide +kernel⟩
def b_own_row : List Vl → Option Out := (sSeq (sUnp [5, 6, 7] (eIx (eIx (eVar 2) (eD (.int 1))) (eVar 3))) (sSeq (sAsg 8 (eCall 4 F_ahead_of (aCons (eVar 0) (aCons (eVar 3) (aCons (eIx (eVar 1) (eVar 3)) (aCons (eVar 5) aNil)))))) (sSeq (sAsg 7 (eCall 4 F_since_begin (aCons (eVar 0) (aCons (eVar 2) (aCons (eVar 3) (aCons (eVar 4) aNil)))))) (sSeq (sAsg 9 (eCall 5 F_next_step (aCons (eVar 0) (aCons (eVar 3) (aCons (eVar 4) (aCons (eVar 8) (aCons (eVar 6) aNil))))))) (sSeq (sAsg 6 (eCat (eVar 6) (eTup (aCons (eCall 2 F_reading (aCons (eIx (eVar 2) (eD (.int 0))) (aCons (eVar 9) aNil))) aNil)))) (sSeq (sAsg 10 (eCall 5 F_next_step (aCons (eVar 0) (aCons (eVar 3) (aCons (eVar 4) (aCons (eVar 8) (aCons (eVar 6) aNil))))))) (sSeq (sIf (cNe (eIx (eVar 10) (eD (.int 0))) (eD (.str "told"))) (sRet (eTup (aCons (eTup (aCons (eVar 5) (aCons (eVar 6) (aCons (eVar 7) aNil)))) (aCons (eVar 9) (aCons (eD .non) aNil))))) sNil) (sRet (eTup (aCons (eTup (aCons (eCat (eVar 5) (eTup (aCons (eIx (eVar 10) (eD (.int 1))) aNil))) (aCons (eTup aNil) (aCons (eTup aNil) aNil)))) (aCons (eVar 9) (aCons (eTup (aCons (eVar 4) (aCons (eIx (eVar 10) (eD (.int 1))) (aCons (eVar 7) aNil)))) aNil))))))))))))
def F_own_row : List Vl → Option Rt := fnD 5 6 (b_own_row)
theorem ok_own_row {P : Program} {w : World} {K : PySem.W.Frag} {mg : PySem.Str → Option Value} {base : Heap} (T : Top K mg) (c_ahead_of : Fn P w K mg base 6 "ahead_of" 4 F_ahead_of) (c_next_step : Fn P w K mg base 5 "next_step" 5 F_next_step) (c_reading : Fn P w K mg base 1 "reading" 2 F_reading) (c_since_begin : Fn P w K mg base 3 "since_begin" 4 F_since_begin) : Fn P w K mg base 7 "own_row" 5 F_own_row := by
  obtain ⟨ft, fd, FD, hm⟩ := T.own_row
  refine ⟨ft, fd, ["manner", "jobs", "room", "hand", "deed"], def_ok (k := 6) (f := b_own_row) FD sc_own_row rfl fun cdv A outer s H E hr => ?_, hm, FD.kp, FD.bindsN fun _ _ _ _ _ _ us hl => match us, hl with | [_, _, _, _, _], _ => rfl⟩
  have hu : (A.deeper (envOfC "own_row" (defScope s_own_row) s.heap.objs.size ft cdv)).units + 100 < cLine := by have := hr.un; omega
  exact (ss_cons (s_unp (is := [5, 6, 7]) rfl rfl (gs_cons (i := 5) sc_own_row.nd (gs_cons (i := 6) sc_own_row.nd (gs_cons (i := 7) sc_own_row.nd gs_nil))) (d_ix rfl (d_ix rfl (d_var 2) d_int) (d_var 3)))
    (ss_cons (s_set (i := 8) sc_own_row.nd (d_call c_ahead_of rfl hr (by decide) rfl (a_cons (d_var 0) (a_cons (d_var 3) (a_cons (d_ix rfl (d_var 1) (d_var 3)) (a_cons (d_var 5) a_nil))))))
    (ss_cons (s_set (i := 7) sc_own_row.nd (d_call c_since_begin rfl hr (by decide) rfl (a_cons (d_var 0) (a_cons (d_var 2) (a_cons (d_var 3) (a_cons (d_var 4) a_nil))))))
    (ss_cons (s_set (i := 9) sc_own_row.nd (d_call c_next_step rfl hr (by decide) rfl (a_cons (d_var 0) (a_cons (d_var 3) (a_cons (d_var 4) (a_cons (d_var 8) (a_cons (d_var 6) a_nil)))))))
    (ss_cons (s_set (i := 6) sc_own_row.nd (d_cat rfl (d_var 6) (d_tup (a_cons (d_call c_reading rfl hr (by decide) rfl (a_cons (d_ix rfl (d_var 2) d_int) (a_cons (d_var 9) a_nil))) a_nil))))
    (ss_cons (s_set (i := 10) sc_own_row.nd (d_call c_next_step rfl hr (by decide) rfl (a_cons (d_var 0) (a_cons (d_var 3) (a_cons (d_var 4) (a_cons (d_var 8) (a_cons (d_var 6) a_nil)))))))
    (ss_cons (s_if (ct_ne rfl hu (d_ix rfl (d_var 10) d_int) d_str) (ss_one (s_ret (d_tup (a_cons (d_tup (a_cons (d_var 5) (a_cons (d_var 6) (a_cons (d_var 7) a_nil)))) (a_cons (d_var 9) (a_cons d_non a_nil)))))) ss_nil)
    (ss_one (s_ret (d_tup (a_cons (d_tup (a_cons (d_cat rfl (d_var 5) (d_tup (a_cons (d_ix rfl (d_var 10) d_int) a_nil))) (a_cons (d_tup a_nil) (a_cons (d_tup a_nil) a_nil)))) (a_cons (d_var 9) (a_cons (d_tup (a_cons (d_var 4) (a_cons (d_ix rfl (d_var 10) d_int) (a_cons (d_var 7) a_nil)))) a_nil)))))))))))))
/-! ### stepped_end -/
def N_stepped_end : List PySem.Str := ["manner", "jobs", "room", "hand", "deed", "row", "step", "ended", "boxes", "rows", "state", "other"]
theorem sc_stepped_end : FnScope N_stepped_end ["manner", "jobs", "room", "hand"] (defScope s_stepped_end) := ⟨rfl, rfl, rfl, by decide +kernel, rfl, by decide +kernel, by decide +kernel⟩
def b_stepped_end : List Vl → Option Out := (sSeq (sAsg 4 (eCall 3 F_deed_there (aCons (eVar 1) (aCons (eVar 2) (aCons (eVar 3) aNil))))) (sSeq (sIf (cIsN (eVar 4) (eD .non)) sNo sNil) (sSeq (sUnp [5, 6, 7] (eCall 5 F_own_row (aCons (eVar 0) (aCons (eVar 1) (aCons (eVar 2) (aCons (eVar 3) (aCons (eVar 4) aNil))))))) (sSeq (sAsg 8 (eCall 2 F_boxes_behind (aCons (eIx (eVar 2) (eD (.int 0))) (aCons (eVar 6) aNil)))) (sSeq (sAsg 9 (eB1 gLstT (aCons (eIx (eVar 2) (eD (.int 1))) aNil))) (sSeq (sIf (cAnd (cNe (eIx (eVar 0) (eD (.int 0))) (eD (.str "tables"))) (cEq (eIx (eVar 6) (eD (.int 0))) (eD (.str "write")))) (sSeq (sAsg 10 (eCall 2 F_state_of (aCons (eVar 0) (aCons (eTup (aCons (eVar 8) (aCons (eIx (eVar 2) (eD (.int 1))) aNil))) aNil)))) (sAsg 9 (eLc (sLst (eVar 9)) (gN 11) cYes (eCall 2 F_with_state (aCons (eVar 11) (aCons (eVar 10) aNil))) [11]))) sNil) (sSeq (sPut 9 (eVar 5) (eVar 3)) (sRet (eTup (aCons (eTup (aCons (eVar 8) (aCons (eB1 gTupL (aCons (eVar 9) aNil)) aNil))) (aCons (eVar 7) aNil)))))))))))
def F_stepped_end : List Vl → Option Rt := fnD 4 8 (b_stepped_end)
theorem ok_stepped_end {P : Program} {w : World} {K : PySem.W.Frag} {mg : PySem.Str → Option Value} {base : Heap} (T : Top K mg) (c_boxes_behind : Fn P w K mg base 1 "boxes_behind" 2 F_boxes_behind) (c_deed_there : Fn P w K mg base 5 "deed_there" 3 F_deed_there) (c_own_row : Fn P w K mg base 7 "own_row" 5 F_own_row) (c_state_of : Fn P w K mg base 2 "state_of" 2 F_state_of) (c_with_state : Fn P w K mg base 1 "with_state" 2 F_with_state) : Fn P w K mg base 8 "stepped_end" 4 F_stepped_end := by
  obtain ⟨ft, fd, FD, hm⟩ := T.stepped_end
  refine ⟨ft, fd, ["manner", "jobs", "room", "hand"], def_ok (k := 7) (f := b_stepped_end) FD sc_stepped_end rfl fun cdv A outer s H E hr => ?_, hm, FD.kp, FD.bindsN fun _ _ _ _ _ _ us hl => match us, hl with | [_, _, _, _], _ => rfl⟩
  have hu : (A.deeper (envOfC "stepped_end" (defScope s_stepped_end) s.heap.objs.size ft cdv)).units + 100 < cLine := by have := hr.un; omega
  exact (ss_cons (s_set (i := 4) sc_stepped_end.nd (d_call c_deed_there rfl hr (by decide) rfl (a_cons (d_var 1) (a_cons (d_var 2) (a_cons (d_var 3) a_nil)))))
    (ss_cons (s_if (ct_isN (d_var 4) d_non) (ss_one s_never) ss_nil)
    (ss_cons (s_unp (is := [5, 6, 7]) rfl rfl (gs_cons (i := 5) sc_stepped_end.nd (gs_cons (i := 6) sc_stepped_end.nd (gs_cons (i := 7) sc_stepped_end.nd gs_nil))) (d_call c_own_row rfl hr (by decide) rfl (a_cons (d_var 0) (a_cons (d_var 1) (a_cons (d_var 2) (a_cons (d_var 3) (a_cons (d_var 4) a_nil)))))))
    (ss_cons (s_set (i := 8) sc_stepped_end.nd (d_call c_boxes_behind rfl hr (by decide) rfl (a_cons (d_ix rfl (d_var 2) d_int) (a_cons (d_var 6) a_nil))))
    (ss_cons (s_set (i := 9) sc_stepped_end.nd (d_lstT rfl rfl T.b_list (a_cons (d_ix rfl (d_var 2) d_int) a_nil)))
    (ss_cons (s_if (PW.pt (cw_and (ct_ne rfl hu (d_ix rfl (d_var 0) d_int) d_str) (cw_and1 (ct_eq rfl hu (d_ix rfl (d_var 6) d_int) d_str)))) (ss_cons (s_set (i := 10) sc_stepped_end.nd (d_call c_state_of rfl hr (by decide) rfl (a_cons (d_var 0) (a_cons (d_tup (a_cons (d_var 8) (a_cons (d_ix rfl (d_var 2) d_int) a_nil))) a_nil))))
    (ss_one (s_setLc (i := 9) rfl sc_stepped_end.nd rfl rfl (sw_true rfl rfl rfl rfl) (i_lst rfl (d_var 9)) (blkOk_by (own := [("other", 11)]) rfl) rfl (ow := false) (idx := [11]) (by decide) (fun _ _ _ _ _ => (g_name (i := 11) sc_stepped_end.nd)) (fun _ _ _ _ _ => ts_nil) (fun _ _ _ _ _ => (d_call c_with_state rfl hr (by decide) rfl (a_cons (d_var 11) (a_cons (d_var 10) a_nil))))))) ss_nil)
    (ss_cons (s_put (i := 9) rfl (d_var 5) (d_var 3))
    (ss_one (s_ret (d_tup (a_cons (d_tup (a_cons (d_var 8) (a_cons (d_tupL rfl rfl T.b_tuple (a_cons (d_var 9) a_nil)) a_nil))) (a_cons (d_var 7) a_nil))))))))))))
/-! ### stepped -/
def N_stepped : List PySem.Str := ["manner", "jobs", "room", "hand"]
theorem sc_stepped : FnScope N_stepped ["manner", "jobs", "room", "hand"] (defScope s_stepped) := ⟨rfl, rfl, rfl, by decide +kernel, rfl, by decide +kernel, by decide +kernel⟩
def b_stepped : List Vl → Option Out := (sRet (eIx (eCall 4 F_stepped_end (aCons (eVar 0) (aCons (eVar 1) (aCons (eVar 2) (aCons (eVar 3) aNil))))) (eD (.int 0))))
def F_stepped : List Vl → Option Rt := fnD 4 0 (b_stepped)
theorem ok_stepped {P : Program} {w : World} {K : PySem.W.Frag} {mg : PySem.Str → Option Value} {base : Heap} (T : Top K mg) (c_stepped_end : Fn P w K mg base 8 "stepped_end" 4 F_stepped_end) : Fn P w K mg base 9 "stepped" 4 F_stepped := by
  obtain ⟨ft, fd, FD, hm⟩ := T.stepped
  refine ⟨ft, fd, ["manner", "jobs", "room", "hand"], def_ok (k := 8) (f := b_stepped) FD sc_stepped rfl fun cdv A outer s H E hr => ?_, hm, FD.kp, FD.bindsN fun _ _ _ _ _ _ us hl => match us, hl with | [_, _, _, _], _ => rfl⟩
  have hu : (A.deeper (envOfC "stepped" (defScope s_stepped) s.heap.objs.size ft cdv)).units + 100 < cLine := by have := hr.un; omega
  exact (ss_one (s_ret (d_ix rfl (d_call c_stepped_end rfl hr (by decide) rfl (a_cons (d_var 0) (a_cons (d_var 1) (a_cons (d_var 2) (a_cons (d_var 3) a_nil))))) d_int)))
end K98

/-! ## DefsS -/
namespace K98
open PySem PySem.Spec PyProof.Rows L2

/-! ### followed -/
def N_followed : List PySem.Str := ["manner", "jobs", "weaving", "room", "rooms", "rows", "under_way", "count", "hand", "deed", "ended", "at"]
theorem sc_followed : FnScope N_followed ["manner", "jobs", "weaving"] (defScope s_followed) := ⟨rfl, rfl, rfl, by decide +kernel, rfl, by decide +kernel, by decide +kernel⟩
def b_followed : List Vl → Option Out := (sSeq (sAsg 3 (eCall 2 F_begun (aCons (eVar 0) (aCons (eVar 1) aNil)))) (sSeq (sAsg 4 (eLst (aCons (eVar 3) aNil))) (sSeq (sAsg 5 (eLst aNil)) (sSeq (sAsg 6 eNewK) (sSeq (sFor (sEnumT (aCons (eVar 2) aNil)) (gP [7, 8]) (sSeq (sAsg 9 (eCall 3 F_deed_there (aCons (eVar 1) (aCons (eVar 3) (aCons (eVar 8) aNil))))) (sSeq (sIf (cIsN (eVar 9) (eD .non)) sNo sNil) (sSeq (sIf (cNotK 6 (eVar 8)) (sSeq (sPutK 6 (eB1 gLen (aCons (eVar 5) aNil)) (eVar 8)) (sApp 5 (aCons (eTup (aCons (eVar 8) (aCons (eVar 9) (aCons (eVar 7) (aCons (eD .non) (aCons (eD .non) aNil)))))) aNil))) sNil) (sSeq (sUnp [3, 10] (eCall 4 F_stepped_end (aCons (eVar 0) (aCons (eVar 1) (aCons (eVar 3) (aCons (eVar 8) aNil)))))) (sSeq (sIf (cNotN (eVar 10) (eD .non)) (sSeq (sPop 11 6 (eVar 8)) (sPut 5 (eTup (aCons (eVar 8) (aCons (eVar 9) (aCons (eIx (eIx (eVar 5) (eVar 11)) (eD (.int 2))) (aCons (eAdd (eVar 7) (eD (.int 1))) (aCons (eIx (eVar 10) (eD (.int 1))) aNil)))))) (eVar 11))) sNil) (sApp 4 (aCons (eVar 3) aNil)))))))) (sRet (ePair 5 4)))))))
def F_followed : List Vl → Option Rt := fnD 3 9 (b_followed)
theorem ok_followed {P : Program} {w : World} {K : PySem.W.Frag} {mg : PySem.Str → Option Value} {base : Heap} (T : Top K mg) (c_begun : Fn P w K mg base 4 "begun" 2 F_begun) (c_deed_there : Fn P w K mg base 5 "deed_there" 3 F_deed_there) (c_stepped_end : Fn P w K mg base 8 "stepped_end" 4 F_stepped_end) : Fn P w K mg base 9 "followed" 3 F_followed := by
  obtain ⟨ft, fd, FD, hm⟩ := T.followed
  refine ⟨ft, fd, ["manner", "jobs", "weaving"], def_ok (k := 8) (f := b_followed) FD sc_followed rfl fun cdv A outer s H E hr => ?_, hm, FD.kp, FD.bindsN fun _ _ _ _ _ _ us hl => match us, hl with | [_, _, _], _ => rfl⟩
  have hu : (A.deeper (envOfC "followed" (defScope s_followed) s.heap.objs.size ft cdv)).units + 100 < cLine := by have := hr.un; omega
  exact (ss_cons (s_set (i := 3) sc_followed.nd (d_call c_begun rfl hr (by decide) rfl (a_cons (d_var 0) (a_cons (d_var 1) a_nil))))
    (ss_cons (s_set (i := 4) sc_followed.nd (d_lst (a_cons (d_var 3) a_nil)))
    (ss_cons (s_set (i := 5) sc_followed.nd (d_lst a_nil))
    (ss_cons (s_set (i := 6) sc_followed.nd d_newK)
    (ss_cons (s_for PassesOwn.never rfl (i_enumT rfl rfl T.b_enumerate (a_cons (d_var 2) a_nil)) (g_tup (is := [7, 8]) rfl rfl (gs_cons (i := 7) sc_followed.nd (gs_cons (i := 8) sc_followed.nd gs_nil))) (ss_cons (s_set (i := 9) sc_followed.nd (d_call c_deed_there rfl hr (by decide) rfl (a_cons (d_var 1) (a_cons (d_var 3) (a_cons (d_var 8) a_nil)))))
    (ss_cons (s_if (ct_isN (d_var 9) d_non) (ss_one s_never) ss_nil)
    (ss_cons (s_if (ct_notK (i := 6) hu (d_var 8)) (ss_cons (s_putK (i := 6) hu (d_len rfl rfl T.b_len (a_cons (d_var 5) a_nil)) (d_var 8))
    (ss_one (s_app (i := 5) rfl (a_cons (d_tup (a_cons (d_var 8) (a_cons (d_var 9) (a_cons (d_var 7) (a_cons d_non (a_cons d_non a_nil)))))) a_nil)))) ss_nil)
    (ss_cons (s_unp (is := [3, 10]) rfl rfl (gs_cons (i := 3) sc_followed.nd (gs_cons (i := 10) sc_followed.nd gs_nil)) (d_call c_stepped_end rfl hr (by decide) rfl (a_cons (d_var 0) (a_cons (d_var 1) (a_cons (d_var 3) (a_cons (d_var 8) a_nil))))))
    (ss_cons (s_if (ct_notN (d_var 10) d_non) (ss_cons (s_pop (i := 6) (j := 11) sc_followed.nd (d_var 8) ⟨rfl, rfl, rfl, rfl⟩)
    (ss_one (s_put (i := 5) rfl (d_tup (a_cons (d_var 8) (a_cons (d_var 9) (a_cons (d_ix rfl (d_ix rfl (d_var 5) (d_var 11)) d_int) (a_cons (d_add (d_var 7) d_int) (a_cons (d_ix rfl (d_var 10) d_int) a_nil)))))) (d_var 11)))) ss_nil)
    (ss_one (s_app (i := 4) rfl (a_cons (d_var 3) a_nil)))))))))
    (ss_one (s_ret (d_pair (i := 5) (j := 4)))))))))
/-! ### story -/
def N_story : List PySem.Str := ["manner", "jobs", "weaving"]
theorem sc_story : FnScope N_story ["manner", "jobs", "weaving"] (defScope s_story) := ⟨rfl, rfl, rfl, by decide +kernel, rfl, by decide +kernel, by decide +kernel⟩
def b_story : List Vl → Option Out := (sRet (eB1 gTupL (aCons (eFst (eCall 3 F_followed (aCons (eVar 0) (aCons (eVar 1) (aCons (eVar 2) aNil))))) aNil)))
def F_story : List Vl → Option Rt := fnD 3 0 (b_story)
theorem ok_story {P : Program} {w : World} {K : PySem.W.Frag} {mg : PySem.Str → Option Value} {base : Heap} (T : Top K mg) (c_followed : Fn P w K mg base 9 "followed" 3 F_followed) : Fn P w K mg base 10 "story" 3 F_story := by
  obtain ⟨ft, fd, FD, hm⟩ := T.story
  refine ⟨ft, fd, ["manner", "jobs", "weaving"], def_ok (k := 9) (f := b_story) FD sc_story rfl fun cdv A outer s H E hr => ?_, hm, FD.kp, FD.bindsN fun _ _ _ _ _ _ us hl => match us, hl with | [_, _, _], _ => rfl⟩
  have hu : (A.deeper (envOfC "story" (defScope s_story) s.heap.objs.size ft cdv)).units + 100 < cLine := by have := hr.un; omega
  exact (ss_one (s_ret (d_tupL rfl rfl T.b_tuple (a_cons (d_fst rfl (d_call c_followed rfl hr (by decide) rfl (a_cons (d_var 0) (a_cons (d_var 1) (a_cons (d_var 2) a_nil))))) a_nil))))
/-! ### _law_total -/
def N_law_total : List PySem.Str := ["_law_rows", "_law_most", "_law_last", "_law_own", "_law_deed", "_law_begin", "_law_end", "_law_told"]
theorem sc_law_total : FnScope N_law_total ["_law_rows", "_law_most"] (defScope s_law_total) := ⟨rfl, rfl, rfl, by decide +kernel, rfl, by decide +kernel, by decide +kernel⟩
def b_law_total : List Vl → Option Out := (sSeq (sAsg 2 eNewK) (sSeq (sFor (sTup (eVar 0)) (gP [3, 4, 5, 6, 7]) (sIf (cAnd (cEq (eIx (eVar 4) (eD (.int 0))) (eD (.str "put"))) (cAnd (cNotN (eVar 6) (eD .non)) (cLe (eVar 6) (eVar 1)))) (sPutK 2 (eIx (eVar 4) (eD (.int 2))) (eVar 3)) sNil)) (sRet (eSumV 2))))
def F_law_total : List Vl → Option Rt := fnD 2 6 (b_law_total)
theorem ok_law_total {P : Program} {w : World} {K : PySem.W.Frag} {mg : PySem.Str → Option Value} {base : Heap} (T : Top K mg) : Fn P w K mg base 1 "_law_total" 2 F_law_total := by
  obtain ⟨ft, fd, FD, hm⟩ := T.law_total
  refine ⟨ft, fd, ["_law_rows", "_law_most"], def_ok (k := 0) (f := b_law_total) FD sc_law_total rfl fun cdv A outer s H E hr => ?_, hm, FD.kp, FD.bindsN fun _ _ _ _ _ _ us hl => match us, hl with | [_, _], _ => rfl⟩
  have hu : (A.deeper (envOfC "_law_total" (defScope s_law_total) s.heap.objs.size ft cdv)).units + 100 < cLine := by have := hr.un; omega
  exact (ss_cons (s_set (i := 2) sc_law_total.nd d_newK)
    (ss_cons (s_for PassesOwn.never rfl (i_tup rfl (d_var 0)) (g_tup (is := [3, 4, 5, 6, 7]) rfl rfl (gs_cons (i := 3) sc_law_total.nd (gs_cons (i := 4) sc_law_total.nd (gs_cons (i := 5) sc_law_total.nd (gs_cons (i := 6) sc_law_total.nd (gs_cons (i := 7) sc_law_total.nd gs_nil)))))) (ss_one (s_if (PW.pt (cw_and (ct_eq rfl hu (d_ix rfl (d_var 4) d_int) d_str) (cw_and (ct_notN (d_var 6) d_non) (cw_and1 (ct_le (d_var 6) (d_var 1)))))) (ss_one (s_putK (i := 2) hu (d_ix rfl (d_var 4) d_int) (d_var 3))) ss_nil)))
    (ss_one (s_ret (d_sumV (i := 2) rfl rfl T.b_sum)))))
end K98

/-! ## Proto -/
/-! The protocol, typed, and no program in sight. -/
namespace K98

structure C where
  val : Int
  num : Int
  tog : Int
  calls : List Int
  view : List Int
  deriving Inhabited

inductive Kd where
  | once
  | twice (turn : Nat)
  | handed (turn mv : Nat)
  | signs (tg sh mv : Nat)

inductive Deed where
  | look
  | put (v : Int)

inductive Rd where
  | c (x : C)
  | b (i : Int)
  | n

def Rd.C : Rd → K98.C
  | .c x => x
  | _ => default
def Rd.B : Rd → Int
  | .b i => i
  | _ => 0

inductive Stp where
  | rdO (j : Nat)
  | rdS (i j : Nat)
  | wrS (i j : Nat) (x : Int)
  | wrO (x : C)
  | told (st : List Int)
  | fin

def Stp.isTold : Stp → Bool
  | .told _ => true
  | .fin => true
  | _ => false

/-- the k-th read as a content -/
def at_ (rs : List Rd) (k : Nat) : C := (rs.getD k .n).C

/-- the others of a hand, rising -/
def others (h n : Nat) : List Nat := (List.range n).filter fun j => j != h

/-- the least one below n that was seen so often -/
def oft (n : Nat) (seen : List Nat) (mv : Nat) : Option Nat :=
  (List.range n).find? fun j => decide (j ∈ seen) && decide (mv ≤ seen.count j)

def diffNum (n : Nat) (rs : List Rd) (p q : Nat) : List Nat :=
  (List.range n).filter fun j => (at_ rs (p + j)).num != (at_ rs (q + j)).num

def valsAt (n : Nat) (rs : List Rd) (p : Nat) : List Int :=
  (List.range n).map fun j => (at_ rs (p + j)).val

def movedH (n : Nat) (rs : List Rd) : List Nat :=
  (List.range (rs.length / n - 1)).flatMap fun a => diffNum n rs (a * n) ((a + 1) * n)

def lookOnce (n : Nat) (rs : List Rd) : Stp :=
  if rs.length < n then .rdO rs.length else .told (valsAt n rs 0)

def lookTwice (n : Nat) (rs : List Rd) : Stp :=
  if rs.length % n = 0 ∧ 2 * n ≤ rs.length ∧ diffNum n rs (rs.length - 2 * n) (rs.length - n) = [] then
    .told (valsAt n rs (rs.length - n))
  else .rdO (rs.length % n)

def lookHanded (n mv : Nat) (rs : List Rd) : Stp :=
  if rs.length % n = 0 ∧ 2 * n ≤ rs.length then
    if diffNum n rs (rs.length - 2 * n) (rs.length - n) = [] then .told (valsAt n rs (rs.length - n))
    else match oft n (movedH n rs) mv with
      | some j => .told (at_ rs (rs.length - n + j)).view
      | none => .rdO (rs.length % n)
  else .rdO (rs.length % n)

/-- how long a round of signs is; how much of it is shaking -/
def shk (n sh : Nat) : Nat := 2 * sh * (n - 1)
def rnd (n sh : Nat) : Nat := shk n sh + 2 * n

/-- is j, the a-th of the others of h, seen to move in the round that begins at p -/
def mvS (h n tg sh : Nat) (rs : List Rd) (p j a : Nat) : Bool :=
  (decide (tg = 1) && (at_ rs (p + shk n sh + j)).tog != (at_ rs (p + shk n sh + n + j)).tog) ||
  (decide (sh = 1) && !(decide ((at_ rs (p + shk n sh + j)).calls.getD h 0 = (at_ rs (p + 2 * a)).calls.getD h 0) &&
    decide ((at_ rs (p + shk n sh + n + j)).calls.getD h 0 = (at_ rs (p + 2 * a)).calls.getD h 0)))

def movedS (h n tg sh : Nat) (rs : List Rd) (p : Nat) : List Nat :=
  ((others h n).zipIdx.filter fun q => mvS h n tg sh rs p q.1 q.2).map (·.1)

def goOnS (h n sh : Nat) (rs : List Rd) : Stp :=
  if rs.length % rnd n sh < shk n sh then
    if rs.length % rnd n sh % 2 = 0 then .rdO ((others h n).getD (rs.length % rnd n sh / 2) 0)
    else .wrS h ((others h n).getD (rs.length % rnd n sh / 2) 0) ((at_ rs (rs.length - 1)).calls.getD h 0)
  else .rdO ((rs.length % rnd n sh - shk n sh) % n)

def lookSigns (h n tg sh mv : Nat) (rs : List Rd) : Stp :=
  if 0 < rs.length ∧ rs.length % rnd n sh = 0 then
    if movedS h n tg sh rs (rs.length - rnd n sh) = [] then .told (valsAt n rs (rs.length - n))
    else match oft n ((List.range (rs.length / rnd n sh)).flatMap fun r => movedS h n tg sh rs (r * rnd n sh)) mv with
      | some j => .told (at_ rs (rs.length - n + j)).view
      | none => goOnS h n sh rs
  else goOnS h n sh rs

/-- the number of a put behind so many -/
def numOf (turn many : Nat) : Int := if turn = 0 then (many : Int) + 1 else ((many : Int) + 1) % (turn : Int)

/-- calls of a put: one less each sign read -/
def callsOf (h n sh : Nat) (rs : List Rd) : List Int :=
  (List.range n).map fun j => if sh = 1 ∧ j ≠ h then 1 - (rs.getD ((others h n).idxOf j) .n).B else 0

def lookOf (k : Kd) (n h : Nat) (rs : List Rd) : Stp :=
  match k with
  | .once => lookOnce n rs
  | .twice _ => lookTwice n rs
  | .handed _ mv => lookHanded n mv rs
  | .signs tg sh mv => lookSigns h n tg sh mv rs

def putOf (k : Kd) (n h : Nat) (v : Int) (many : Nat) (rs : List Rd) : Stp :=
  match k with
  | .once => .wrO ⟨v, 0, 0, [], []⟩
  | .twice turn => .wrO ⟨v, numOf turn many, 0, [], []⟩
  | .handed turn mv => match lookHanded n mv rs with
    | .told st => .wrO ⟨v, numOf turn many, 0, [], st⟩
    | s => s
  | .signs tg sh mv =>
    if rs.length < sh * (n - 1) then .rdS ((others h n).getD rs.length 0) h
    else match lookSigns h n tg sh mv (rs.drop (sh * (n - 1))) with
      | .told st => .wrO ⟨v, 0, (tg : Int) * (((many : Int) + 1) % 2), callsOf h n sh (rs.take (sh * (n - 1))), st⟩
      | s => s

def nextStep (k : Kd) (n h : Nat) (d : Deed) (many : Nat) (rs : List Rd) : Stp :=
  match d with
  | .look => lookOf k n h rs
  | .put v => putOf k n h v many rs

/-! ### jobs, rooms, steps -/
abbrev Items := List (Option Int)
def deedAt (items : Items) (k : Nat) : Option Deed :=
  if k < items.length then
    match items.getD k none with
    | none => some .look
    | some _ => some (.put ((items.take (k + 1)).filterMap id).sum)
  else none
def manyAt (items : Items) (k : Nat) : Nat := (items.take k).countP (·.isSome)

structure Row where
  told : List (Option (List Int))
  reads : List Rd
  since : List (List Int)

structure Rm where
  own : Nat → C
  sgn : Nat → Nat → Int
  row : Nat → Row

def upd1 {α : Type} (f : Nat → α) (i : Nat) (x : α) : Nat → α := fun j => if j = i then x else f j
def upd2 {α : Type} (f : Nat → Nat → α) (a b : Nat) (x : α) : Nat → Nat → α := fun i j => if i = a ∧ j = b then x else f i j

def state (n : Nat) (r : Rm) : List Int := (List.range n).map fun j => (r.own j).val

def firstC (k : Kd) (n : Nat) : C :=
  match k with
  | .once => ⟨0, 0, 0, [], []⟩
  | .twice _ => ⟨0, 0, 0, [], []⟩
  | .handed _ _ => ⟨0, 0, 0, [], List.replicate n 0⟩
  | .signs _ _ _ => ⟨0, 0, 0, List.replicate n 0, List.replicate n 0⟩

def begun (k : Kd) (n : Nat) : Rm := ⟨fun _ => firstC k n, fun _ _ => 0, fun _ => ⟨[], [], []⟩⟩

def sinceBegin (n : Nat) (r : Rm) (h : Nat) (d : Deed) : List (List Int) :=
  match d with
  | .put _ => []
  | .look => if (r.row h).reads.isEmpty then [state n r] else (r.row h).since

def withState (q : Row) (st : List Int) : Row :=
  if q.since = [] ∨ st ∈ q.since then q else { q with since := q.since ++ [st] }

/-- what a step does to the boxes, and what it reads -/
def effect (r : Rm) (h : Nat) : Stp → Rm × Rd
  | .rdO j => (r, .c (r.own j))
  | .rdS i j => (r, .b (r.sgn i j))
  | .wrS i j x => ({ r with sgn := upd2 r.sgn i j x }, .n)
  | .wrO x => ({ r with own := upd1 r.own h x }, .n)
  | _ => (r, .n)

def isWrite : Stp → Bool
  | .wrS _ _ _ => true
  | .wrO _ => true
  | _ => false

/-- what a deed told by its last step: none: it goes on -/
def ended (k : Kd) (n h : Nat) (d : Deed) (many : Nat) (s : Stp) (rs : List Rd) : Option (Option (List Int)) :=
  match s with
  | .wrO _ => some none
  | _ => match nextStep k n h d many rs with
    | .told st => some (some st)
    | _ => none

structure Man where
  n : Nat
  k : Kd

/-- a step of a hand: the room behind it, the deed and what it told, if it ended -/
def stepped (M : Man) (jobs : Nat → Items) (r : Rm) (h : Nat) : Option (Rm × Deed × Option (Option (List Int))) :=
  match deedAt (jobs h) (r.row h).told.length with
  | none => none
  | some d =>
    let many := manyAt (jobs h) (r.row h).told.length
    let s := nextStep M.k M.n h d many (r.row h).reads
    let e := effect r h s
    let rs := (r.row h).reads ++ [e.2]
    let row := if isWrite s then fun i => withState (r.row i) (state M.n e.1) else r.row
    match ended M.k M.n h d many s rs with
    | none => some ({ e.1 with row := upd1 row h ⟨(r.row h).told, rs, sinceBegin M.n r h d⟩ }, d, none)
    | some x => some ({ e.1 with row := upd1 row h ⟨(r.row h).told ++ [x], [], []⟩ }, d, some x)

end K98

/-! ## Run -/
namespace K98

/-- a run: the rooms behind 0, 1, 2, .. steps, and which hand steps -/
structure Run (M : Man) (jobs : Nat → Items) (R : Nat → Rm) (w : Nat → Nat) (T : Nat) : Prop where
  zero : R 0 = begun M.k M.n
  hand : ∀ t, t < T → w t < M.n
  step : ∀ t, t < T → ∃ d x, stepped M jobs (R t) (w t) = some (R (t + 1), d, x)

def tl (R : Nat → Rm) (h t : Nat) : List (Option (List Int)) := ((R t).row h).told
def rd (R : Nat → Rm) (h t : Nat) : List Rd := ((R t).row h).reads
def cn (jobs : Nat → Items) (R : Nat → Rm) (j t : Nat) : Nat := manyAt (jobs j) (tl R j t).length

theorem withState_told (q : Row) (st : List Int) : (withState q st).told = q.told := by
  unfold withState; split <;> rfl
theorem withState_reads (q : Row) (st : List Int) : (withState q st).reads = q.reads := by
  unfold withState; split <;> rfl

/-- what a step is, opened -/
structure StepIs (M : Man) (jobs : Nat → Items) (r r' : Rm) (h : Nat) (d : Deed) (s : Stp) (x : Option (Option (List Int))) : Prop where
  deed : deedAt (jobs h) (r.row h).told.length = some d
  stp : s = nextStep M.k M.n h d (manyAt (jobs h) (r.row h).told.length) (r.row h).reads
  own : r'.own = (effect r h s).1.own
  sgn : r'.sgn = (effect r h s).1.sgn
  end_ : ended M.k M.n h d (manyAt (jobs h) (r.row h).told.length) s ((r.row h).reads ++ [(effect r h s).2]) = x
  other : ∀ i, i ≠ h → (r'.row i).told = (r.row i).told ∧ (r'.row i).reads = (r.row i).reads
  goes : x = none → (r'.row h).told = (r.row h).told ∧ (r'.row h).reads = (r.row h).reads ++ [(effect r h s).2]
  ends : ∀ y, x = some y → (r'.row h).told = (r.row h).told ++ [y] ∧ (r'.row h).reads = []

theorem stepped_is {M : Man} {jobs : Nat → Items} {r r' : Rm} {h : Nat} {d : Deed} {x : Option (Option (List Int))}
    (e : stepped M jobs r h = some (r', d, x)) : ∃ s, StepIs M jobs r r' h d s x := by
  unfold stepped at e
  split at e
  · cases e
  · rename_i d' hd
    refine ⟨nextStep M.k M.n h d' (manyAt (jobs h) (r.row h).told.length) (r.row h).reads, ?_⟩
    simp only at e
    split at e
    · rename_i he
      have e' := Option.some.inj e
      obtain ⟨rfl, e2⟩ := Prod.mk.inj e'
      obtain ⟨rfl, rfl⟩ := Prod.mk.inj e2
      refine ⟨hd, rfl, rfl, rfl, he, fun i hi => ?_, fun _ => ?_, (fun y hy => by cases hy)⟩
      · simp only [upd1, if_neg hi]
        split
        · exact ⟨withState_told _ _, withState_reads _ _⟩
        · exact ⟨rfl, rfl⟩
      · simp [upd1]
    · rename_i y he
      have e' := Option.some.inj e
      obtain ⟨rfl, e2⟩ := Prod.mk.inj e'
      obtain ⟨rfl, rfl⟩ := Prod.mk.inj e2
      refine ⟨hd, rfl, rfl, rfl, he, fun i hi => ?_, (fun z => by cases z), fun y' hy => ?_⟩
      · simp only [upd1, if_neg hi]
        split
        · exact ⟨withState_told _ _, withState_reads _ _⟩
        · exact ⟨rfl, rfl⟩
      · cases hy
        simp [upd1]

/-! ### counting puts -/
theorem deedAt_lt {items : Items} {k : Nat} {d : Deed} (h : deedAt items k = some d) : k < items.length := by
  unfold deedAt at h
  split at h
  · assumption
  · cases h
theorem deedAt_look {items : Items} {k : Nat} (h : deedAt items k = some .look) : items[k]? = some none := by
  have hl := deedAt_lt h
  unfold deedAt at h
  rw [if_pos hl] at h
  rw [List.getD_eq_getElem?_getD, List.getElem?_eq_getElem hl] at h
  rw [List.getElem?_eq_getElem hl]
  simp only [Option.getD_some] at h
  split at h
  · rename_i q; rw [q]
  · cases h
theorem deedAt_put {items : Items} {k : Nat} {v : Int} (h : deedAt items k = some (.put v)) :
    ∃ i, items[k]? = some (some i) ∧ v = ((items.take (k + 1)).filterMap id).sum := by
  have hl := deedAt_lt h
  unfold deedAt at h
  rw [if_pos hl] at h
  rw [List.getD_eq_getElem?_getD, List.getElem?_eq_getElem hl] at h
  rw [List.getElem?_eq_getElem hl]
  simp only [Option.getD_some] at h
  split at h
  · cases h
  · rename_i i q
    refine ⟨i, by rw [q], ?_⟩
    cases h
    rfl
theorem manyAt_succ_look {items : Items} {k : Nat} (h : items[k]? = some none) : manyAt items (k + 1) = manyAt items k := by
  unfold manyAt
  rw [List.take_add_one, h]
  simp
theorem manyAt_succ_put {items : Items} {k : Nat} {i : Int} (h : items[k]? = some (some i)) : manyAt items (k + 1) = manyAt items k + 1 := by
  unfold manyAt
  rw [List.take_add_one, h]
  simp
theorem manyAt_le {items : Items} {k : Nat} : manyAt items k ≤ manyAt items (k + 1) := by
  unfold manyAt
  rw [List.take_add_one, List.countP_append]
  omega

def sumAt (items : Items) (k : Nat) : Int := ((items.take k).filterMap id).sum
theorem sumAt_succ_look {items : Items} {k : Nat} (h : items[k]? = some none) : sumAt items (k + 1) = sumAt items k := by
  unfold sumAt
  rw [List.take_add_one, h]
  simp

/-! ### when a step writes the own box -/
theorem lookOnce_not (n : Nat) (rs : List Rd) (x : C) : lookOnce n rs ≠ .wrO x := by
  unfold lookOnce; split <;> (intro e; cases e)
theorem lookTwice_not (n : Nat) (rs : List Rd) (x : C) : lookTwice n rs ≠ .wrO x := by
  unfold lookTwice; split <;> (intro e; cases e)
theorem lookHanded_not (n mv : Nat) (rs : List Rd) (x : C) : lookHanded n mv rs ≠ .wrO x := by
  unfold lookHanded
  split
  · split
    · intro e; cases e
    · split <;> (intro e; cases e)
  · intro e; cases e
theorem goOnS_not (h n sh : Nat) (rs : List Rd) (x : C) : goOnS h n sh rs ≠ .wrO x := by
  unfold goOnS
  split
  · split <;> (intro e; cases e)
  · intro e; cases e
theorem lookSigns_not (h n tg sh mv : Nat) (rs : List Rd) (x : C) : lookSigns h n tg sh mv rs ≠ .wrO x := by
  unfold lookSigns
  split
  · split
    · intro e; cases e
    · split
      · intro e; cases e
      · exact goOnS_not _ _ _ _ _
  · exact goOnS_not _ _ _ _ _
theorem lookOf_not (k : Kd) (n h : Nat) (rs : List Rd) (x : C) : lookOf k n h rs ≠ .wrO x := by
  cases k with
  | once => exact lookOnce_not _ _ _
  | twice _ => exact lookTwice_not _ _ _
  | handed _ _ => exact lookHanded_not _ _ _ _
  | signs _ _ _ => exact lookSigns_not _ _ _ _ _ _ _

theorem ended_wrO {k : Kd} {n h : Nat} {d : Deed} {many : Nat} {x : C} {rs : List Rd} : ended k n h d many (.wrO x) rs = some none := rfl

section
variable {M : Man} {jobs : Nat → Items} {R : Nat → Rm} {w : Nat → Nat} {T : Nat}

theorem Run.is (r : Run M jobs R w T) {t : Nat} (ht : t < T) : ∃ d s x, StepIs M jobs (R t) (R (t + 1)) (w t) d s x := by
  obtain ⟨d, x, e⟩ := r.step t ht
  obtain ⟨s, h⟩ := stepped_is e
  exact ⟨d, s, x, h⟩

theorem own_other {r : Rm} {h j : Nat} {s : Stp} (hj : j ≠ h) : (effect r h s).1.own j = r.own j := by
  cases s <;> first | rfl | (simp [effect, upd1, hj])
theorem own_still {r : Rm} {h : Nat} {s : Stp} (hs : ∀ x, s ≠ .wrO x) : (effect r h s).1.own = r.own := by
  cases s with
  | wrO x => exact absurd rfl (hs x)
  | _ => rfl
theorem own_put {r : Rm} {h : Nat} {x : C} : (effect r h (.wrO x)).1.own h = x := by simp [effect, upd1]

/-- one step, as the counts see it -/
theorem Run.count (r : Run M jobs R w T) {t : Nat} (ht : t < T) (j : Nat) :
    (cn jobs R j (t + 1) = cn jobs R j t ∧ (R (t + 1)).own j = (R t).own j ∧ sumAt (jobs j) (tl R j (t + 1)).length = sumAt (jobs j) (tl R j t).length) ∨
    (w t = j ∧ cn jobs R j (t + 1) = cn jobs R j t + 1 ∧ tl R j (t + 1) = tl R j t ++ [none] ∧ ∃ v x, deedAt (jobs j) (tl R j t).length = some (.put v) ∧
      nextStep M.k M.n j (.put v) (cn jobs R j t) (rd R j t) = .wrO x ∧ (R (t + 1)).own j = x ∧ v = sumAt (jobs j) (tl R j (t + 1)).length) := by
  obtain ⟨d, s, x, S⟩ := r.is ht
  by_cases hj : j = w t
  · subst hj
    by_cases hs : ∃ y, s = .wrO y
    · obtain ⟨y, rfl⟩ := hs
      have hx : x = some none := by rw [← S.end_]; rfl
      obtain ⟨e1, e2⟩ := S.ends _ hx
      cases d with
      | look => exact absurd S.stp.symm (lookOf_not _ _ _ _ _)
      | put v =>
        obtain ⟨i, h1, h2⟩ := deedAt_put S.deed
        have el : (tl R (w t) (t + 1)).length = (tl R (w t) t).length + 1 := by
          show ((R (t + 1)).row (w t)).told.length = _
          rw [e1, List.length_append]; rfl
        refine .inr ⟨rfl, ?_, e1, v, y, S.deed, S.stp.symm, ?_, ?_⟩
        · unfold cn; rw [el]; exact manyAt_succ_put h1
        · rw [S.own, own_put]
        · rw [el]; exact h2
    · have hs' : ∀ y, s ≠ .wrO y := fun y e => hs ⟨y, e⟩
      refine .inl ?_
      have ho : (R (t + 1)).own (w t) = (R t).own (w t) := by rw [S.own, own_still hs']
      cases x with
      | none =>
        obtain ⟨e1, _⟩ := S.goes rfl
        have et : tl R (w t) (t + 1) = tl R (w t) t := e1
        exact ⟨by unfold cn; rw [et], ho, by rw [et]⟩
      | some y =>
        obtain ⟨e1, _⟩ := S.ends _ rfl
        have el : (tl R (w t) (t + 1)).length = (tl R (w t) t).length + 1 := by
          show ((R (t + 1)).row (w t)).told.length = _
          rw [e1, List.length_append]; rfl
        cases d with
        | look =>
          have h1 := deedAt_look S.deed
          exact ⟨by unfold cn; rw [el]; exact manyAt_succ_look h1, ho, by rw [el]; exact sumAt_succ_look h1⟩
        | put v =>
          exfalso
          have he := S.end_
          have key : ∀ rs, ∀ st, putOf M.k M.n (w t) v (manyAt (jobs (w t)) ((R t).row (w t)).told.length) rs ≠ .told st := by
            intro rs st
            unfold putOf
            split
            · intro e; cases e
            · intro e; cases e
            · split
              · intro e; cases e
              · rename_i q _ q2; exact fun e => q2 st e
            · split
              · intro e; cases e
              · split
                · intro e; cases e
                · rename_i q2; exact fun e => q2 st e
          unfold ended at he
          split at he
          · rename_i y' ; exact hs' _ rfl
          · split at he
            · rename_i st q; exact key _ st q
            · cases he
  · obtain ⟨e1, e2⟩ := S.other j hj
    have et : tl R j (t + 1) = tl R j t := e1
    exact .inl ⟨by unfold cn; rw [et], by rw [S.own, own_other hj], by rw [et]⟩

theorem Run.mono1 (r : Run M jobs R w T) {t : Nat} (ht : t < T) (j : Nat) : cn jobs R j t ≤ cn jobs R j (t + 1) := by
  rcases r.count ht j with ⟨e, _⟩ | ⟨_, e, _⟩ <;> omega
theorem Run.mono (r : Run M jobs R w T) (j : Nat) {a : Nat} : ∀ {b : Nat}, a ≤ b → b ≤ T → cn jobs R j a ≤ cn jobs R j b
  | 0, h, _ => by have : a = 0 := by omega
                  subst this; exact Nat.le_refl _
  | b + 1, h, hb => by
    by_cases e : a = b + 1
    · subst e; exact Nat.le_refl _
    · exact Nat.le_trans (r.mono j (by omega) (by omega)) (r.mono1 (by omega) j)
/-- where nothing was put the box stands still -/
theorem Run.still (r : Run M jobs R w T) (j : Nat) {a : Nat} : ∀ {b : Nat}, a ≤ b → b ≤ T → cn jobs R j a = cn jobs R j b → (R a).own j = (R b).own j
  | 0, h, _, _ => by have : a = 0 := by omega
                     subst this; rfl
  | b + 1, h, hb, e => by
    by_cases q : a = b + 1
    · subst q; rfl
    · have m1 := r.mono j (a := a) (b := b) (by omega) (by omega)
      have m2 := r.mono1 (t := b) (by omega) j
      rw [r.still j (a := a) (b := b) (by omega) (by omega) (by omega)]
      rcases r.count (t := b) (by omega) j with ⟨_, e2, _⟩ | ⟨_, e2, _⟩
      · exact e2.symm
      · omega
end
end K98

/-! ## Trace -/
namespace K98
section
variable {M : Man} {jobs : Nat → Items} {R : Nat → Rm} {w : Nat → Nat} {T : Nat}

/-- the times of the steps of the deed that a hand is at -/
structure Tr (R : Nat → Rm) (w : Nat → Nat) (h t : Nat) (ts : Nat → Nat) : Prop where
  lt : ∀ i, i < (rd R h t).length → ts i < t
  mono : ∀ i j, i < j → j < (rd R h t).length → ts i < ts j
  hand : ∀ i, i < (rd R h t).length → w (ts i) = h
  told : ∀ i, i < (rd R h t).length → tl R h (ts i) = tl R h t
  reads : ∀ i, i < (rd R h t).length → rd R h (ts i) = (rd R h t).take i
  next : ∀ i, i < (rd R h t).length → rd R h (ts i + 1) = (rd R h t).take (i + 1) ∧ tl R h (ts i + 1) = tl R h t
  quiet : ∀ i, i < (rd R h t).length → ∀ u, ts i < u → u < t → (i + 1 < (rd R h t).length → u < ts (i + 1)) → w u ≠ h

theorem Run.trace (r : Run M jobs R w T) (h : Nat) : ∀ t, t ≤ T → ∃ ts, Tr R w h t ts
  | 0, _ => by
    have e : rd R h 0 = [] := by unfold rd; rw [r.zero]; rfl
    have no : ∀ i, ¬ i < (rd R h 0).length := fun i hi => by rw [e] at hi; exact absurd hi (Nat.not_lt_zero _)
    exact ⟨fun _ => 0, fun i hi => absurd hi (no i), fun i j _ hj => absurd hj (no j), fun i hi => absurd hi (no i), fun i hi => absurd hi (no i), fun i hi => absurd hi (no i), fun i hi => absurd hi (no i), fun i hi => absurd hi (no i)⟩
  | t + 1, ht => by
    obtain ⟨ts, I⟩ := r.trace h t (by omega)
    obtain ⟨d, s, x, S⟩ := r.is (t := t) (by omega)
    by_cases hw : h = w t
    · subst hw
      cases x with
      | some y =>
        obtain ⟨_, e⟩ := S.ends y rfl
        have no : ∀ i, ¬ i < (rd R (w t) (t + 1)).length := fun i hi => by unfold rd at hi; rw [e] at hi; exact absurd hi (Nat.not_lt_zero _)
        exact ⟨fun _ => 0, fun i hi => absurd hi (no i), fun i j _ hj => absurd hj (no j), fun i hi => absurd hi (no i), fun i hi => absurd hi (no i), fun i hi => absurd hi (no i), fun i hi => absurd hi (no i), fun i hi => absurd hi (no i)⟩
      | none =>
        obtain ⟨e1, e2⟩ := S.goes rfl
        have e1' : tl R (w t) (t + 1) = tl R (w t) t := e1
        have e2' : rd R (w t) (t + 1) = rd R (w t) t ++ [(effect (R t) (w t) s).2] := e2
        have el : (rd R (w t) (t + 1)).length = (rd R (w t) t).length + 1 := by rw [e2', List.length_append]; rfl
        have tk : ∀ i, i ≤ (rd R (w t) t).length → (rd R (w t) (t + 1)).take i = (rd R (w t) t).take i := fun i hi => by
          rw [e2', List.take_append_of_le_length hi]
        have hall : (rd R (w t) (t + 1)).take ((rd R (w t) t).length) = rd R (w t) t := by rw [tk _ (Nat.le_refl _), List.take_length]
        refine ⟨fun i => if i < (rd R (w t) t).length then ts i else t, fun i hi => ?_, fun i j hij hj => ?_, fun i hi => ?_, fun i hi => ?_, fun i hi => ?_, fun i hi => ?_, fun i hi u h1 h2 h3 => ?_⟩
        · by_cases q : i < (rd R (w t) t).length
          · simp only [if_pos q]; have := I.lt i q; omega
          · simp only [if_neg q]; omega
        · by_cases q : j < (rd R (w t) t).length
          · have q' : i < (rd R (w t) t).length := by omega
            simp only [if_pos q, if_pos q']; exact I.mono i j hij q
          · have q' : i < (rd R (w t) t).length := by omega
            simp only [if_pos q', if_neg q]; exact I.lt i q'
        · by_cases q : i < (rd R (w t) t).length
          · simp only [if_pos q]; exact I.hand i q
          · simp only [if_neg q]
        · by_cases q : i < (rd R (w t) t).length
          · simp only [if_pos q]; rw [I.told i q, e1']
          · simp only [if_neg q]; exact e1'.symm
        · by_cases q : i < (rd R (w t) t).length
          · simp only [if_pos q]; rw [I.reads i q, tk i (Nat.le_of_lt q)]
          · simp only [if_neg q]
            have : i = (rd R (w t) t).length := by omega
            subst this
            exact hall.symm
        · by_cases q : i < (rd R (w t) t).length
          · simp only [if_pos q]
            obtain ⟨n1, n2⟩ := I.next i q
            exact ⟨by rw [n1, tk (i + 1) (by omega)], by rw [n2, e1']⟩
          · simp only [if_neg q]
            have : i = (rd R (w t) t).length := by omega
            subst this
            rw [← el, List.take_length]
            refine ⟨rfl, ?_⟩
            trivial
        · by_cases q : i < (rd R (w t) t).length
          · simp only [if_pos q] at h1
            by_cases q2 : i + 1 < (rd R (w t) t).length
            · have h3' := h3 (by omega)
              simp only [if_pos q2] at h3'
              exact I.quiet i q u h1 (by have := I.lt _ q2; omega) fun _ => h3'
            · have h3' := h3 (by omega)
              simp only [if_neg q2] at h3'
              exact I.quiet i q u h1 h3' fun z => absurd z q2
          · simp only [if_neg q] at h1
            omega
    · obtain ⟨e1, e2⟩ := S.other h hw
      have e1' : tl R h (t + 1) = tl R h t := e1
      have e2' : rd R h (t + 1) = rd R h t := e2
      refine ⟨ts, ?_, ?_, ?_, ?_, ?_, ?_, ?_⟩
      · intro i hi; rw [e2'] at hi; have := I.lt i hi; omega
      · intro i j hij hj; rw [e2'] at hj; exact I.mono i j hij hj
      · intro i hi; rw [e2'] at hi; exact I.hand i hi
      · intro i hi; rw [e2'] at hi; rw [e1']; exact I.told i hi
      · intro i hi; rw [e2'] at hi ⊢; exact I.reads i hi
      · intro i hi; rw [e2'] at hi ⊢; rw [e1']; exact I.next i hi
      · intro i hi u h1 h2 h3
        rw [e2'] at hi h3
        by_cases q : u = t
        · subst q; exact fun z => hw z.symm
        · exact I.quiet i hi u h1 (by omega) h3

/-- the sign boxes of a hand stand while it does nothing -/
theorem Run.sgn1 (r : Run M jobs R w T) {t : Nat} (ht : t < T) {h : Nat} (hw : w t ≠ h) (j : Nat) : (R (t + 1)).sgn h j = (R t).sgn h j := by
  obtain ⟨d, s, x, S⟩ := r.is ht
  rw [S.sgn]
  have key : ∀ (h' n' : Nat) (rs : List Rd) (a b : Nat) (y : Int), goOnS h' n' 1 rs ≠ .wrS a b y → True := fun _ _ _ _ _ _ _ => trivial
  cases e : s with
  | wrS a b y =>
    show upd2 (R t).sgn a b y h j = _
    have ha : a = w t := by
      have e' := S.stp
      rw [e] at e'
      have go : ∀ n' sh rs, goOnS (w t) n' sh rs = .wrS a b y → a = w t := by
        intro n' sh rs q
        unfold goOnS at q
        split at q
        · split at q
          · cases q
          · injection q with q1 _ _; exact q1.symm
        · cases q
      have lk : ∀ n' tg sh mv rs, lookSigns (w t) n' tg sh mv rs = .wrS a b y → a = w t := by
        intro n' tg sh mv rs q
        unfold lookSigns at q
        split at q
        · split at q
          · cases q
          · split at q
            · cases q
            · exact go _ _ _ q
        · exact go _ _ _ q
      have on : ∀ n' rs, lookOnce n' rs ≠ .wrS a b y := by intro n' rs; unfold lookOnce; split <;> (intro z; cases z)
      have tw : ∀ n' rs, lookTwice n' rs ≠ .wrS a b y := by intro n' rs; unfold lookTwice; split <;> (intro z; cases z)
      have hd : ∀ n' mv rs, lookHanded n' mv rs ≠ .wrS a b y := by
        intro n' mv rs; unfold lookHanded
        split
        · split
          · intro z; cases z
          · split <;> (intro z; cases z)
        · intro z; cases z
      unfold nextStep at e'
      split at e'
      · unfold lookOf at e'
        split at e'
        · exact absurd e'.symm (on _ _)
        · exact absurd e'.symm (tw _ _)
        · exact absurd e'.symm (hd _ _ _)
        · exact lk _ _ _ _ _ e'.symm
      · unfold putOf at e'
        split at e'
        · cases e'
        · cases e'
        · split at e'
          · cases e'
          · exact absurd e'.symm (hd _ _ _)
        · split at e'
          · cases e'
          · split at e'
            · cases e'
            · exact lk _ _ _ _ _ e'.symm
    simp only [upd2]
    rw [if_neg]
    rintro ⟨q, _⟩
    exact hw (by rw [q, ha])
  | _ => rfl
theorem Run.sgn_still (r : Run M jobs R w T) {h : Nat} {a : Nat} (j : Nat) : ∀ {b : Nat}, a ≤ b → b ≤ T → (∀ u, a ≤ u → u < b → w u ≠ h) → (R b).sgn h j = (R a).sgn h j
  | 0, h1, _, _ => by have : a = 0 := by omega
                      subst this; rfl
  | b + 1, h1, hb, hq => by
    by_cases e : a = b + 1
    · subst e; rfl
    · rw [r.sgn1 (t := b) (by omega) (hq b (by omega) (by omega)) j]
      exact r.sgn_still j (b := b) (by omega) (by omega) fun u h2 h3 => hq u h2 (by omega)

/-- what a deed under way has read: by the rooms at its steps' times -/
theorem Run.read (r : Run M jobs R w T) {h t : Nat} {ts : Nat → Nat} (ht : t ≤ T) (I : Tr R w h t ts) {d : Deed} (hd : deedAt (jobs h) (tl R h t).length = some d) {i : Nat} (hi : i < (rd R h t).length) :
    (rd R h t)[i]? = some (effect (R (ts i)) h (nextStep M.k M.n h d (cn jobs R h t) ((rd R h t).take i))).2 ∧
    (∀ x, nextStep M.k M.n h d (cn jobs R h t) ((rd R h t).take i) ≠ .wrO x) ∧
    (∀ st, nextStep M.k M.n h d (cn jobs R h t) ((rd R h t).take (i + 1)) ≠ .told st) ∧
    ∀ j, (R (ts i + 1)).sgn h j = (effect (R (ts i)) h (nextStep M.k M.n h d (cn jobs R h t) ((rd R h t).take i))).1.sgn h j := by
  have hlt := I.lt i hi
  obtain ⟨d', s, x, S⟩ := r.is (t := ts i) (by omega)
  have hh := I.hand i hi
  rw [hh] at S
  have ht1 : ((R (ts i)).row h).told = tl R h t := I.told i hi
  have hr1 : ((R (ts i)).row h).reads = (rd R h t).take i := I.reads i hi
  obtain ⟨n1, n2⟩ := I.next i hi
  have ed : d' = d := by
    have q := S.deed
    rw [ht1, hd] at q
    exact (Option.some.inj q).symm
  subst ed
  have es : s = nextStep M.k M.n h d' (cn jobs R h t) ((rd R h t).take i) := by
    have q := S.stp
    rw [ht1, hr1] at q
    exact q
  have ex : x = none := by
    cases x with
    | none => rfl
    | some y =>
      obtain ⟨e1, _⟩ := S.ends y rfl
      have e3 : tl R h (ts i + 1) = tl R h t ++ [y] := by
        show ((R (ts i + 1)).row h).told = _
        rw [e1, ht1]
      rw [n2] at e3
      have := congrArg List.length e3
      rw [List.length_append] at this
      simp at this
  subst ex
  obtain ⟨_, e2⟩ := S.goes rfl
  have e2' : (rd R h t).take (i + 1) = (rd R h t).take i ++ [(effect (R (ts i)) h s).2] := by
    rw [← n1, ← hr1]; exact e2
  have g : (rd R h t)[i]? = some (effect (R (ts i)) h s).2 := by
    rw [List.take_add_one, List.getElem?_eq_getElem hi] at e2'
    have q := List.append_cancel_left e2'
    simp only [Option.toList_some, List.cons.injEq, and_true] at q
    rw [List.getElem?_eq_getElem hi, q]
  refine ⟨by rw [← es]; exact g, fun y hy => ?_, fun st hst => ?_, fun j => by rw [S.sgn, es]⟩
  · have q := S.end_
    rw [es, hy, ended_wrO] at q
    cases q
  · have q := S.end_
    unfold ended at q
    split at q
    · cases q
    · rw [ht1, hr1] at q
      rw [e2'] at hst
      have hst' : nextStep M.k M.n h d' (manyAt (jobs h) (tl R h t).length) ((rd R h t).take i ++ [(effect (R (ts i)) h s).2]) = .told st := hst
      rw [hst'] at q
      cases q

/-! ### what the own box holds -/
theorem Run.val (r : Run M jobs R w T) (j : Nat) : ∀ t, t ≤ T → ((R t).own j).val = sumAt (jobs j) (tl R j t).length
  | 0, _ => by
    have e : tl R j 0 = [] := by unfold tl; rw [r.zero]; rfl
    rw [r.zero, e]
    show (firstC M.k M.n).val = _
    cases M.k <;> rfl
  | t + 1, ht => by
    have ih := r.val j t (by omega)
    rcases r.count (t := t) (by omega) j with ⟨_, e2, e3⟩ | ⟨_, _, _, v, x, h1, h2, h3, h4⟩
    · rw [e2, e3]; exact ih
    · rw [h3, ← h4]
      have : x.val = v := by
        unfold nextStep at h2
        simp only at h2
        unfold putOf at h2
        split at h2
        · injection h2 with h2; subst h2; rfl
        · injection h2 with h2; subst h2; rfl
        · split at h2
          · injection h2 with h2; subst h2; rfl
          · rename_i q; exact absurd h2 (lookHanded_not _ _ _ _)
        · split at h2
          · cases h2
          · split at h2
            · injection h2 with h2; subst h2; rfl
            · exact absurd h2 (lookSigns_not _ _ _ _ _ _ _)
      exact this

def numAt (turn c : Nat) : Int := if turn = 0 then (c : Int) else (c : Int) % (turn : Int)
theorem numOf_at (turn c : Nat) : numOf turn c = numAt turn (c + 1) := by
  unfold numOf numAt
  split <;> simp
theorem cn_zero (r : Run M jobs R w T) (j : Nat) : cn jobs R j 0 = 0 := by
  unfold cn
  have e : tl R j 0 = [] := by unfold tl; rw [r.zero]; rfl
  rw [e]
  rfl
theorem Run.numT (r : Run M jobs R w T) {turn : Nat} (hk : M.k = .twice turn) (j : Nat) : ∀ t, t ≤ T → ((R t).own j).num = numAt turn (cn jobs R j t)
  | 0, _ => by
    rw [cn_zero r, r.zero]
    show (firstC M.k M.n).num = _
    rw [hk]; unfold numAt; split <;> rfl
  | t + 1, ht => by
    have ih := r.numT hk j t (by omega)
    rcases r.count (t := t) (by omega) j with ⟨e1, e2, _⟩ | ⟨_, e1, _, v, x, h1, h2, h3, _⟩
    · rw [e2, e1]; exact ih
    · rw [h3, e1, ← numOf_at]
      rw [hk] at h2
      have h2' : putOf (.twice turn) M.n j v (cn jobs R j t) (rd R j t) = .wrO x := h2
      unfold putOf at h2'
      injection h2' with h2'; subst h2'; rfl
theorem Run.numH (r : Run M jobs R w T) {turn mv : Nat} (hk : M.k = .handed turn mv) (j : Nat) : ∀ t, t ≤ T → ((R t).own j).num = numAt turn (cn jobs R j t)
  | 0, _ => by
    rw [cn_zero r, r.zero]
    show (firstC M.k M.n).num = _
    rw [hk]; unfold numAt; split <;> rfl
  | t + 1, ht => by
    have ih := r.numH hk j t (by omega)
    rcases r.count (t := t) (by omega) j with ⟨e1, e2, _⟩ | ⟨_, e1, _, v, x, h1, h2, h3, _⟩
    · rw [e2, e1]; exact ih
    · rw [h3, e1, ← numOf_at]
      rw [hk] at h2
      have h2' : putOf (.handed turn mv) M.n j v (cn jobs R j t) (rd R j t) = .wrO x := h2
      unfold putOf at h2'
      simp only at h2'
      split at h2'
      · injection h2' with h2'; subst h2'; rfl
      · exact absurd h2' (lookHanded_not _ _ _ _)
theorem Run.tog (r : Run M jobs R w T) {tg sh mv : Nat} (hk : M.k = .signs tg sh mv) (j : Nat) : ∀ t, t ≤ T → ((R t).own j).tog = (tg : Int) * ((cn jobs R j t : Int) % 2)
  | 0, _ => by
    rw [cn_zero r, r.zero]
    show (firstC M.k M.n).tog = _
    rw [hk]; simp [firstC]
  | t + 1, ht => by
    have ih := r.tog hk j t (by omega)
    rcases r.count (t := t) (by omega) j with ⟨e1, e2, _⟩ | ⟨_, e1, _, v, x, h1, h2, h3, _⟩
    · rw [e2, e1]; exact ih
    · rw [h3, e1]
      rw [hk] at h2
      have h2' : putOf (.signs tg sh mv) M.n j v (cn jobs R j t) (rd R j t) = .wrO x := h2
      unfold putOf at h2'
      simp only at h2'
      split at h2'
      · cases h2'
      · split at h2'
        · injection h2' with h2'; subst h2'; simp
        · exact absurd h2' (lookSigns_not _ _ _ _ _ _ _)
end
end K98

/-! ## Looks -/
namespace K98

/-! ### lists -/
theorem count_flat1 {α : Type} [BEq α] [LawfulBEq α] {f : Nat → List α} {j : α} : ∀ {K : Nat}, 1 ≤ ((List.range K).flatMap f).count j → ∃ a, a < K ∧ j ∈ f a
  | 0, h => by simp at h
  | K + 1, h => by
    have hm : j ∈ (List.range (K + 1)).flatMap f := List.count_pos_iff.mp (by omega)
    obtain ⟨a, ha, hj⟩ := List.mem_flatMap.mp hm
    exact ⟨a, List.mem_range.mp ha, hj⟩
theorem count_flat2 {α : Type} [BEq α] [LawfulBEq α] {f : Nat → List α} {j : α} (h1 : ∀ a, (f a).count j ≤ 1) : ∀ {K : Nat}, 2 ≤ ((List.range K).flatMap f).count j → ∃ a b, a < b ∧ b < K ∧ j ∈ f a ∧ j ∈ f b
  | 0, h => by simp at h
  | K + 1, h => by
    rw [List.range_succ, List.flatMap_append, List.count_append] at h
    have e : ([K].flatMap f).count j = (f K).count j := by simp
    rw [e] at h
    by_cases q : j ∈ f K
    · have := h1 K
      obtain ⟨a, ha, hj⟩ := count_flat1 (f := f) (j := j) (K := K) (by omega)
      exact ⟨a, K, ha, by omega, hj, q⟩
    · have z : (f K).count j = 0 := List.count_eq_zero.mpr q
      obtain ⟨a, b, h2, h3, h4, h5⟩ := count_flat2 h1 (K := K) (by omega)
      exact ⟨a, b, h2, by omega, h4, h5⟩
theorem oft_some {n : Nat} {seen : List Nat} {mv j : Nat} (h : oft n seen mv = some j) : j < n ∧ mv ≤ seen.count j := by
  unfold oft at h
  have h1 := List.mem_of_find?_eq_some h
  have h2 := List.find?_some h
  simp only [Bool.and_eq_true, decide_eq_true_eq] at h2
  exact ⟨List.mem_range.mp h1, h2.2⟩
theorem diffNum_mem {n : Nat} {rs : List Rd} {p q j : Nat} : j ∈ diffNum n rs p q ↔ j < n ∧ (at_ rs (p + j)).num ≠ (at_ rs (q + j)).num := by
  unfold diffNum
  simp
theorem diffNum_count {n : Nat} {rs : List Rd} {p q j : Nat} : (diffNum n rs p q).count j ≤ 1 := by
  unfold diffNum
  exact List.nodup_iff_count.mp (List.nodup_range.sublist List.filter_sublist) j
theorem diffNum_nil {n : Nat} {rs : List Rd} {p q : Nat} (h : diffNum n rs p q = []) {j : Nat} (hj : j < n) : (at_ rs (p + j)).num = (at_ rs (q + j)).num := by
  by_cases e : (at_ rs (p + j)).num = (at_ rs (q + j)).num
  · exact e
  · have : j ∈ diffNum n rs p q := diffNum_mem.mpr ⟨hj, e⟩
    rw [h] at this
    cases this
theorem others_mem {h n j : Nat} : j ∈ others h n ↔ j < n ∧ j ≠ h := by unfold others; simp
theorem others_nodup (h n : Nat) : (others h n).Nodup := List.nodup_range.sublist List.filter_sublist
theorem others_length {h n : Nat} (hh : h < n) : (others h n).length = n - 1 := by
  have key : ∀ m, ((List.range m).filter fun j => j != h).length = if h < m then m - 1 else m := by
    intro m
    induction m with
    | zero => simp
    | succ m ih =>
      rw [List.range_succ, List.filter_append, List.length_append, ih]
      by_cases q : m = h
      · subst q; simp
      · have : (m != h) = true := by simpa using q
        simp only [List.filter_cons, this, List.filter_nil, List.length_cons, List.length_nil, if_true]
        split <;> split <;> omega
  unfold others
  rw [key n, if_pos hh]

section
variable {M : Man} {jobs : Nat → Items} {R : Nat → Rm} {w : Nat → Nat} {T : Nat}

/-- a look under way, or a put's own look: what was read, and when -/
structure Ph (jobs : Nat → Items) (R : Nat → Rm) (w : Nat → Nat) (look : List Rd → Stp) (h c0 t : Nat) (rs : List Rd) (ts : Nat → Nat) : Prop where
  lt : ∀ i, i < rs.length → ts i < t
  mono : ∀ i j, i < j → j < rs.length → ts i < ts j
  same : ∀ i, i < rs.length → cn jobs R h (ts i) = c0
  got : ∀ i, i < rs.length → rs[i]? = some (effect (R (ts i)) h (look (rs.take i))).2
  not : ∀ i, i < rs.length → ∀ st, look (rs.take i) ≠ .told st
  sgn : ∀ i, i < rs.length → ∀ j, (R (ts i + 1)).sgn h j = (effect (R (ts i)) h (look (rs.take i))).1.sgn h j
  quiet : ∀ i, i < rs.length → ∀ u, ts i < u → u < t → (i + 1 < rs.length → u < ts (i + 1)) → w u ≠ h

section
variable {look : List Rd → Stp} {h c0 t : Nat} {rs : List Rd} {ts : Nat → Nat}
theorem Ph.le (I : Ph jobs R w look h c0 t rs ts) {i j : Nat} (hij : i ≤ j) (hj : j < rs.length) : ts i ≤ ts j := by
  by_cases e : i = j
  · subst e; exact Nat.le_refl _
  · exact Nat.le_of_lt (I.mono i j (by omega) hj)
theorem Ph.at_rdO (I : Ph jobs R w look h c0 t rs ts) {i j : Nat} (hi : i < rs.length) (e : look (rs.take i) = .rdO j) : at_ rs i = (R (ts i)).own j := by
  have g := I.got i hi
  rw [e] at g
  unfold at_
  rw [List.getD_eq_getElem?_getD, g]
  rfl
/-- a look of two, or of one: the last collect stood when the other one's box was read -/
theorem small (r : Run M jobs R w T) (I : Ph jobs R w look h c0 t rs ts) (ht : t ≤ T) (hn : M.n ≤ 2) (hh : h < M.n) {q : Nat} (hq : q + M.n ≤ rs.length)
    (hr : ∀ j, j < M.n → at_ rs (q + j) = (R (ts (q + j))).own j) : ∃ s, ts 0 ≤ s ∧ s < t ∧ state M.n (R s) = valsAt M.n rs q := by
  have hown : ∀ i k, i < rs.length → k < rs.length → i ≤ k → (R (ts i)).own h = (R (ts k)).own h := fun i k hi hk hik =>
    r.still h (I.le hik hk) (by have := I.lt k hk; omega) (by rw [I.same i hi, I.same k hk])
  have hn' : M.n = 1 ∨ M.n = 2 := by omega
  rcases hn' with e | e
  · refine ⟨ts q, I.le (Nat.zero_le _) (by omega), I.lt q (by omega), ?_⟩
    unfold state valsAt
    rw [e]
    have := hr 0 (by omega)
    simp only [Nat.add_zero] at this
    simp [List.range_succ, this]
  · have h0 := hr 0 (by omega)
    have h1 := hr 1 (by omega)
    simp only [Nat.add_zero] at h0
    have hl1 : q + 1 < rs.length := by omega
    by_cases z : h = 0
    · refine ⟨ts (q + 1), I.le (Nat.zero_le _) hl1, I.lt _ hl1, ?_⟩
      unfold state valsAt
      rw [e]
      have := hown q (q + 1) (by omega) hl1 (by omega)
      rw [z] at this
      simp [List.range_succ, h0, h1, this]
    · have z' : h = 1 := by omega
      refine ⟨ts q, I.le (Nat.zero_le _) (by omega), I.lt _ (by omega), ?_⟩
      unfold state valsAt
      rw [e]
      have := hown q (q + 1) (by omega) hl1 (by omega)
      rw [z'] at this
      simp [List.range_succ, h0, h1, this]
/-- where nothing moved between two collects: all stood at the begin of the second -/
theorem direct (r : Run M jobs R w T) (I : Ph jobs R w look h c0 t rs ts) (ht : t ≤ T) (hn : 1 ≤ M.n) {p q : Nat} (hpq : p + M.n ≤ q) (hq : q + M.n ≤ rs.length)
    (hr : ∀ j, j < M.n → at_ rs (q + j) = (R (ts (q + j))).own j)
    (hc : ∀ j, j < M.n → cn jobs R j (ts (p + j)) = cn jobs R j (ts (q + j))) : ∃ s, ts 0 ≤ s ∧ s < t ∧ state M.n (R s) = valsAt M.n rs q := by
  refine ⟨ts q, I.le (Nat.zero_le _) (by omega), I.lt q (by omega), ?_⟩
  unfold state valsAt
  refine List.map_congr_left fun j hj => ?_
  have hj' := List.mem_range.mp hj
  rw [hr j hj']
  have a1 : ts (p + j) ≤ ts q := I.le (by omega) (by omega)
  have a2 : ts q ≤ ts (q + j) := I.le (by omega) (by omega)
  have a3 : ts (q + j) ≤ T := by have := I.lt (q + j) (by omega); omega
  have m1 := r.mono j a1 (by omega)
  have m2 := r.mono j a2 a3
  rw [r.still j a2 a3 (by have := hc j hj'; omega)]
end

/-- what is known of the views, and of the calls, up to a time -/
def Views (M : Man) (jobs : Nat → Items) (R : Nat → Rm) (t : Nat) : Prop :=
  ∀ u, u ≤ t → ∀ j, j < M.n → 1 ≤ cn jobs R j u → ∃ s, s ≤ u ∧ cn jobs R j s + 1 = cn jobs R j u ∧ state M.n (R s) = ((R u).own j).view
def Calls (M : Man) (jobs : Nat → Items) (R : Nat → Rm) (t : Nat) : Prop :=
  ∀ u, u ≤ t → ∀ j, j < M.n → ∀ i, i < M.n → i ≠ j → 1 ≤ cn jobs R j u → ∃ x, x ≤ u ∧ cn jobs R j x + 1 = cn jobs R j u ∧ ((R u).own j).calls.getD i 0 = 1 - (R x).sgn i j

section
variable {look : List Rd → Stp} {h c0 t : Nat} {rs : List Rd} {ts : Nat → Nat}
/-- a view that is handed on by one that moved twice -/
theorem viewed (r : Run M jobs R w T) (I : Ph jobs R w look h c0 t rs ts) (ht : t ≤ T) (V : Views M jobs R t) {j a x : Nat} (hj : j < M.n) (hx : x < rs.length) (ha : a ≤ x)
    (hc : cn jobs R j (ts a) + 2 ≤ cn jobs R j (ts x)) : ∃ s, ts 0 ≤ s ∧ s < t ∧ state M.n (R s) = ((R (ts x)).own j).view := by
  have hxt := I.lt x hx
  obtain ⟨s, h1, h2, h3⟩ := V (ts x) (by omega) j hj (by omega)
  refine ⟨s, ?_, by omega, h3⟩
  have h0 : ts 0 ≤ ts a := I.le (Nat.zero_le _) (by omega)
  by_cases q : ts a ≤ s
  · omega
  · have := r.mono j (a := s) (b := ts a) (by omega) (by have := I.lt a (by omega); omega)
    omega

/-! ### once -/
theorem look_once (r : Run M jobs R w T) (hk : M.n ≤ 2) (hh : h < M.n) (I : Ph jobs R w (lookOnce M.n) h c0 t rs ts) (ht : t ≤ T) {st : List Int} (e : lookOnce M.n rs = .told st) :
    ∃ s, ts 0 ≤ s ∧ s < t ∧ state M.n (R s) = st := by
  unfold lookOnce at e
  split at e
  · cases e
  · injection e with e
    subst e
    rename_i hl
    refine small r I ht hk hh (q := 0) (by omega) fun j hj => ?_
    rw [Nat.zero_add]
    refine I.at_rdO (by omega) ?_
    unfold lookOnce
    rw [List.length_take, if_pos (by omega)]
    congr 1
    omega

/-! ### twice -/
theorem twice_step {n : Nat} {rs : List Rd} (h : ∀ st, lookTwice n rs ≠ .told st) : lookTwice n rs = .rdO (rs.length % n) := by
  unfold lookTwice at h ⊢
  split
  · rename_i q
    rw [if_pos q] at h
    exact absurd rfl (h _)
  · rfl
theorem Ph.twice (I : Ph jobs R w (lookTwice M.n) h c0 t rs ts) {i : Nat} (hi : i < rs.length) : at_ rs i = (R (ts i)).own (i % M.n) := by
  refine I.at_rdO hi ?_
  rw [twice_step (I.not i hi), List.length_take, Nat.min_eq_left (by omega)]
theorem mod_col {n L j : Nat} (h0 : L % n = 0) (hj : j < n) : (L + j) % n = j := by
  rw [Nat.add_mod, h0, Nat.zero_add, Nat.mod_mod, Nat.mod_eq_of_lt hj]
theorem mod_sub {n L : Nat} (h0 : L % n = 0) (hn : n ≤ L) : (L - n) % n = 0 := by
  obtain ⟨k, rfl⟩ := Nat.dvd_of_mod_eq_zero h0
  rw [show n * k - n = n * (k - 1) by rw [Nat.mul_sub, Nat.mul_one]]
  exact Nat.mul_mod_right _ _
theorem look_twice (r : Run M jobs R w T) {turn : Nat} (hk : M.k = .twice turn) (hn : 1 ≤ M.n) (ok : turn = 0 ∨ M.n ≤ 2) (hh : h < M.n) (I : Ph jobs R w (lookTwice M.n) h c0 t rs ts) (ht : t ≤ T) {st : List Int} (e : lookTwice M.n rs = .told st) :
    ∃ s, ts 0 ≤ s ∧ s < t ∧ state M.n (R s) = st := by
  unfold lookTwice at e
  split at e
  · injection e with e
    subst e
    rename_i q
    obtain ⟨q1, q2, q3⟩ := q
    have z1 : (rs.length - M.n) % M.n = 0 := mod_sub q1 (by omega)
    have z2 : (rs.length - 2 * M.n) % M.n = 0 := by
      have := mod_sub z1 (by omega)
      rw [show rs.length - 2 * M.n = rs.length - M.n - M.n by omega]
      exact this
    have hr : ∀ j, j < M.n → at_ rs (rs.length - M.n + j) = (R (ts (rs.length - M.n + j))).own j := fun j hj => by
      rw [I.twice (by omega), mod_col z1 hj]
    have hr2 : ∀ j, j < M.n → at_ rs (rs.length - 2 * M.n + j) = (R (ts (rs.length - 2 * M.n + j))).own j := fun j hj => by
      rw [I.twice (by omega), mod_col z2 hj]
    rcases ok with ok | ok
    · refine direct r I ht hn (p := rs.length - 2 * M.n) (q := rs.length - M.n) (by omega) (by omega) hr fun j hj => ?_
      have d := diffNum_nil q3 hj
      rw [hr j hj, hr2 j hj, r.numT hk j _ (by have := I.lt (rs.length - 2 * M.n + j) (by omega); omega), r.numT hk j _ (by have := I.lt (rs.length - M.n + j) (by omega); omega)] at d
      unfold numAt at d
      rw [if_pos ok, if_pos ok] at d
      omega
    · exact small r I ht ok hh (by omega) hr
  · cases e

/-! ### handed -/
theorem handed_step {n mv : Nat} {rs : List Rd} (h : ∀ st, lookHanded n mv rs ≠ .told st) : lookHanded n mv rs = .rdO (rs.length % n) := by
  unfold lookHanded at h ⊢
  split
  · rename_i q
    rw [if_pos q] at h
    split
    · rename_i q2
      rw [if_pos q2] at h
      exact absurd rfl (h _)
    · rename_i q2
      rw [if_neg q2] at h
      split
      · rename_i j q3
        rw [q3] at h
        exact absurd rfl (h _)
      · rfl
  · rfl
theorem Ph.handed {mv : Nat} (I : Ph jobs R w (lookHanded M.n mv) h c0 t rs ts) {i : Nat} (hi : i < rs.length) : at_ rs i = (R (ts i)).own (i % M.n) := by
  refine I.at_rdO hi ?_
  rw [handed_step (I.not i hi), List.length_take, Nat.min_eq_left (by omega)]
theorem numAt_ne {turn a b : Nat} (h : numAt turn a ≠ numAt turn b) : a ≠ b := fun e => h (by rw [e])
theorem look_handed (r : Run M jobs R w T) {turn mv : Nat} (hk : M.k = .handed turn mv) (hn : 1 ≤ M.n) (hmv : 2 ≤ mv) (ok : turn = 0 ∨ M.n ≤ 2) (hh : h < M.n) (V : Views M jobs R t) (I : Ph jobs R w (lookHanded M.n mv) h c0 t rs ts) (ht : t ≤ T) {st : List Int}
    (e : lookHanded M.n mv rs = .told st) : ∃ s, ts 0 ≤ s ∧ s < t ∧ state M.n (R s) = st := by
  unfold lookHanded at e
  split at e
  · rename_i q
    obtain ⟨q1, q2⟩ := q
    have z1 : (rs.length - M.n) % M.n = 0 := mod_sub q1 (by omega)
    have z2 : (rs.length - 2 * M.n) % M.n = 0 := by
      have := mod_sub z1 (by omega)
      rw [show rs.length - 2 * M.n = rs.length - M.n - M.n by omega]
      exact this
    have hr : ∀ j, j < M.n → at_ rs (rs.length - M.n + j) = (R (ts (rs.length - M.n + j))).own j := fun j hj => by
      rw [I.handed (by omega), mod_col z1 hj]
    split at e
    · rename_i q3
      injection e with e
      subst e
      rcases ok with ok | ok
      · have hr2 : ∀ j, j < M.n → at_ rs (rs.length - 2 * M.n + j) = (R (ts (rs.length - 2 * M.n + j))).own j := fun j hj => by
          rw [I.handed (by omega), mod_col z2 hj]
        refine direct r I ht hn (p := rs.length - 2 * M.n) (q := rs.length - M.n) (by omega) (by omega) hr fun j hj => ?_
        have d := diffNum_nil q3 hj
        rw [hr j hj, hr2 j hj, r.numH hk j _ (by have := I.lt (rs.length - 2 * M.n + j) (by omega); omega), r.numH hk j _ (by have := I.lt (rs.length - M.n + j) (by omega); omega)] at d
        unfold numAt at d
        rw [if_pos ok, if_pos ok] at d
        omega
      · exact small r I ht ok hh (by omega) hr
    · split at e
      · rename_i j q4
        injection e with e
        subst e
        obtain ⟨hj, hcnt⟩ := oft_some q4
        obtain ⟨a, b, hab, hb, ha1, hb1⟩ := count_flat2 (f := fun a => diffNum M.n rs (a * M.n) ((a + 1) * M.n)) (j := j) (fun a => diffNum_count) (K := rs.length / M.n - 1) (Nat.le_trans hmv hcnt)
        have hdv : rs.length = M.n * (rs.length / M.n) := by
          have := Nat.div_add_mod rs.length M.n
          omega
        have bnd : ∀ k, k ≤ rs.length / M.n - 1 → k * M.n + M.n ≤ rs.length := fun k hk' => by
          have h1 : (k + 1) * M.n ≤ (rs.length / M.n) * M.n := Nat.mul_le_mul_right _ (by
            have : 1 ≤ rs.length / M.n := by
              have := Nat.div_le_div_right (c := M.n) q2
              rw [Nat.mul_div_cancel _ hn] at this
              omega
            omega)
          rw [Nat.mul_comm (rs.length / M.n)] at h1
          rw [Nat.add_mul, Nat.one_mul] at h1
          omega
        have rdk : ∀ k, k ≤ rs.length / M.n - 1 → at_ rs (k * M.n + j) = (R (ts (k * M.n + j))).own j := fun k hk' => by
          have := bnd k hk'
          rw [I.handed (by omega), mod_col (Nat.mul_mod_left _ _) hj]
        have bump : ∀ k, k < rs.length / M.n - 1 → j ∈ diffNum M.n rs (k * M.n) ((k + 1) * M.n) → cn jobs R j (ts (k * M.n + j)) + 1 ≤ cn jobs R j (ts ((k + 1) * M.n + j)) := fun k hk' hm => by
          have b1 := bnd k (by omega)
          have b2 := bnd (k + 1) (by omega)
          have d := (diffNum_mem.mp hm).2
          have t1 := I.lt (k * M.n + j) (by omega)
          have t2 := I.lt ((k + 1) * M.n + j) (by omega)
          rw [rdk k (by omega), rdk (k + 1) (by omega), r.numH hk j _ (by omega), r.numH hk j _ (by omega)] at d
          have d' := numAt_ne d
          have m := r.mono j (a := ts (k * M.n + j)) (b := ts ((k + 1) * M.n + j)) (I.le (by rw [Nat.add_mul]; omega) (by omega)) (by omega)
          omega
        have c1 := bump a (by omega) ha1
        have c2 := bump b hb hb1
        have b1 := bnd (a + 1) (by omega)
        have b2 := bnd b (by omega)
        have b3 := bnd (b + 1) (by omega)
        have le1 : (a + 1) * M.n ≤ b * M.n := Nat.mul_le_mul_right _ (by omega)
        have le2 : (b + 1) * M.n ≤ rs.length - M.n := by omega
        have tl3 := I.lt (rs.length - M.n + j) (by omega)
        have m1 := r.mono j (a := ts ((a + 1) * M.n + j)) (b := ts (b * M.n + j)) (I.le (by omega) (by omega)) (by have := I.lt (b * M.n + j) (by omega); omega)
        have m2 := r.mono j (a := ts ((b + 1) * M.n + j)) (b := ts (rs.length - M.n + j)) (I.le (by omega) (by omega)) (by omega)
        rw [hr j hj]
        have le3 : a * M.n ≤ (a + 1) * M.n := Nat.mul_le_mul_right _ (by omega)
        exact viewed r I ht V hj (a := a * M.n + j) (by omega) (by omega) (by omega)
      · cases e
  · cases e
end
end
end K98

/-! ## Signs -/
namespace K98
theorem movedS_mem {h n tg sh : Nat} {rs : List Rd} {p j : Nat} : j ∈ movedS h n tg sh rs p ↔ ∃ a, (others h n)[a]? = some j ∧ mvS h n tg sh rs p j a = true := by
  unfold movedS
  rw [List.mem_map]
  constructor
  · rintro ⟨⟨x, a⟩, hm, rfl⟩
    obtain ⟨h1, h2⟩ := List.mem_filter.mp hm
    exact ⟨a, List.mem_zipIdx_iff_getElem?.mp h1, h2⟩
  · rintro ⟨a, h1, h2⟩
    exact ⟨(j, a), List.mem_filter.mpr ⟨List.mem_zipIdx_iff_getElem?.mpr h1, h2⟩, rfl⟩
theorem movedS_count {h n tg sh : Nat} {rs : List Rd} {p j : Nat} : (movedS h n tg sh rs p).count j ≤ 1 := by
  have : (movedS h n tg sh rs p).Sublist (others h n) := by
    unfold movedS
    have s : (((others h n).zipIdx.filter fun q => mvS h n tg sh rs p q.1 q.2).map (·.1)).Sublist ((others h n).zipIdx.map (·.1)) := List.Sublist.map _ List.filter_sublist
    rw [List.zipIdx_map_fst] at s
    exact s
  exact List.nodup_iff_count.mp ((others_nodup h n).sublist this) j
theorem others_at {h n a j : Nat} (e : (others h n)[a]? = some j) : j < n ∧ j ≠ h := others_mem.mp (List.mem_of_getElem? e)
theorem others_inj {h n a b j : Nat} (e : (others h n)[a]? = some j) (e' : (others h n)[b]? = some j) : a = b := by
  obtain ⟨h1, e1⟩ := List.getElem?_eq_some_iff.mp e
  obtain ⟨h2, e2⟩ := List.getElem?_eq_some_iff.mp e'
  exact (List.getElem_inj (others_nodup h n)).mp (e1.trans e2.symm)

section
variable {M : Man} {jobs : Nat → Items} {R : Nat → Rm} {w : Nat → Nat} {T : Nat} {look : List Rd → Stp} {h c0 t : Nat} {rs : List Rd} {ts : Nat → Nat}

/-- a sign that no step between writes -/
theorem sgnKept (r : Run M jobs R w T) (I : Ph jobs R w look h c0 t rs ts) (ht : t ≤ T) {i0 j : Nat} : ∀ {i1 : Nat}, i0 < i1 → i1 < rs.length →
    (∀ i, i0 < i → i < i1 → ∀ a b x, look (rs.take i) = .wrS a b x → b ≠ j) → ∀ u, ts i0 + 1 ≤ u → u ≤ ts i1 → (R u).sgn h j = (R (ts i0 + 1)).sgn h j
  | 0, h1, _, _, _, _, _ => absurd h1 (Nat.not_lt_zero _)
  | i1 + 1, h1, hl, hw, u, hu, hu2 => by
    have t1 := I.lt (i1 + 1) hl
    by_cases e : i0 = i1
    · subst e
      refine r.sgn_still j hu (by omega) fun v v1 v2 => ?_
      exact I.quiet i0 (by omega) v (by omega) (by omega) fun _ => by omega
    · by_cases q : u ≤ ts i1
      · exact sgnKept r I ht (i1 := i1) (by omega) (by omega) (fun i a1 a2 => hw i a1 (by omega)) u hu q
      · have s1 : (R u).sgn h j = (R (ts i1 + 1)).sgn h j := by
          refine r.sgn_still j (by omega) (by omega) fun v v1 v2 => ?_
          exact I.quiet i1 (by omega) v (by omega) (by omega) fun _ => by omega
        have s2 : (R (ts i1 + 1)).sgn h j = (R (ts i1)).sgn h j := by
          rw [I.sgn i1 (by omega) j]
          cases q2 : look (rs.take i1) with
          | wrS a b x =>
            have := hw i1 (by omega) (by omega) a b x q2
            show upd2 _ _ _ _ _ _ = _
            simp only [upd2]
            rw [if_neg]
            rintro ⟨_, z⟩
            exact this z.symm
          | _ => rfl
        have m := I.mono i0 i1 (by omega) (by omega)
        rw [s1, s2]
        exact sgnKept r I ht (i1 := i1) (by omega) (by omega) (fun i a1 a2 => hw i a1 (by omega)) (ts i1) (by omega) (Nat.le_refl _)

theorem signs_step {h n tg sh mv : Nat} {rs : List Rd} (q : ∀ st, lookSigns h n tg sh mv rs ≠ .told st) : lookSigns h n tg sh mv rs = goOnS h n sh rs := by
  unfold lookSigns at q ⊢
  split
  · rename_i a
    rw [if_pos a] at q
    split
    · rename_i b
      rw [if_pos b] at q
      exact absurd rfl (q _)
    · rename_i b
      rw [if_neg b] at q
      split
      · rename_i j c
        rw [c] at q
        exact absurd rfl (q _)
      · rfl
  · rfl
theorem rnd_pos {n sh : Nat} (hn : 1 ≤ n) : 0 < rnd n sh := by unfold rnd; omega
theorem at_take {rs : List Rd} {i k : Nat} (h : k < i) : at_ (rs.take i) k = at_ rs k := by
  unfold at_
  rw [List.getD_eq_getElem?_getD, List.getD_eq_getElem?_getD, List.getElem?_take_of_lt h]

variable {tg sh mv : Nat}
theorem Ph.goes (I : Ph jobs R w (lookSigns h M.n tg sh mv) h c0 t rs ts) {i : Nat} (hi : i < rs.length) : lookSigns h M.n tg sh mv (rs.take i) = goOnS h M.n sh (rs.take i) := signs_step (I.not i hi)
/-- shaking: the a-th of the others is read -/
theorem Ph.shake (I : Ph jobs R w (lookSigns h M.n tg sh mv) h c0 t rs ts) {p a j : Nat} (hp : p % rnd M.n sh = 0) (ha : 2 * a < shk M.n sh) (hi : p + 2 * a < rs.length) (hj : (others h M.n)[a]? = some j) :
    at_ rs (p + 2 * a) = (R (ts (p + 2 * a))).own j := by
  refine I.at_rdO hi ?_
  rw [I.goes hi]
  unfold goOnS
  have e : (rs.take (p + 2 * a)).length % rnd M.n sh = 2 * a := by
    rw [List.length_take, Nat.min_eq_left (by omega)]
    exact mod_col hp (by unfold rnd; omega)
  rw [e, if_pos ha, if_pos (by omega), show 2 * a / 2 = a by omega, List.getD_eq_getElem?_getD, hj]
  rfl
/-- shaking: its call is answered -/
theorem Ph.answer (I : Ph jobs R w (lookSigns h M.n tg sh mv) h c0 t rs ts) {p a j : Nat} (hp : p % rnd M.n sh = 0) (ha : 2 * a + 1 < shk M.n sh) (hi : p + 2 * a + 1 < rs.length) (hj : (others h M.n)[a]? = some j) :
    (R (ts (p + 2 * a + 1) + 1)).sgn h j = (at_ rs (p + 2 * a)).calls.getD h 0 := by
  rw [I.sgn _ hi, I.goes hi]
  unfold goOnS
  have e : (rs.take (p + 2 * a + 1)).length % rnd M.n sh = 2 * a + 1 := by
    rw [List.length_take, Nat.min_eq_left (by omega), Nat.add_assoc]
    exact mod_col hp (by unfold rnd; omega)
  have e2 : (rs.take (p + 2 * a + 1)).length - 1 = p + 2 * a := by
    rw [List.length_take, Nat.min_eq_left (by omega)]; omega
  rw [e, if_pos ha, if_neg (by omega), show (2 * a + 1) / 2 = a by omega, List.getD_eq_getElem?_getD, hj, e2, at_take (by omega)]
  simp [effect, upd2]
/-- the collects -/
theorem Ph.collect (I : Ph jobs R w (lookSigns h M.n tg sh mv) h c0 t rs ts) {p o : Nat} (hp : p % rnd M.n sh = 0) (ho : o < 2 * M.n) (hi : p + shk M.n sh + o < rs.length) :
    at_ rs (p + shk M.n sh + o) = (R (ts (p + shk M.n sh + o))).own (o % M.n) := by
  refine I.at_rdO hi ?_
  rw [I.goes hi]
  unfold goOnS
  have e : (rs.take (p + shk M.n sh + o)).length % rnd M.n sh = shk M.n sh + o := by
    rw [List.length_take, Nat.min_eq_left (by omega), Nat.add_assoc]
    exact mod_col hp (by unfold rnd; omega)
  rw [e, if_neg (by omega)]
  congr 1
  rw [show shk M.n sh + o - shk M.n sh = o by omega]
theorem Ph.first (I : Ph jobs R w (lookSigns h M.n tg sh mv) h c0 t rs ts) {p j : Nat} (hp : p % rnd M.n sh = 0) (hj : j < M.n) (hi : p + rnd M.n sh ≤ rs.length) :
    at_ rs (p + shk M.n sh + j) = (R (ts (p + shk M.n sh + j))).own j := by
  have e : rnd M.n sh = shk M.n sh + 2 * M.n := rfl
  rw [I.collect hp (by omega) (by omega), Nat.mod_eq_of_lt hj]
theorem Ph.second (I : Ph jobs R w (lookSigns h M.n tg sh mv) h c0 t rs ts) {p j : Nat} (hp : p % rnd M.n sh = 0) (hj : j < M.n) (hi : p + rnd M.n sh ≤ rs.length) :
    at_ rs (p + shk M.n sh + M.n + j) = (R (ts (p + shk M.n sh + M.n + j))).own j := by
  have e : rnd M.n sh = shk M.n sh + 2 * M.n := rfl
  rw [Nat.add_assoc (p + shk M.n sh), I.collect hp (by omega) (by omega), Nat.add_mod_left, Nat.mod_eq_of_lt hj]

/-- one that is seen to move in a round has moved in it -/
theorem bumpS (r : Run M jobs R w T) (hk : M.k = .signs tg sh mv) (hsh : sh ≤ 1) (hh : h < M.n) (I : Ph jobs R w (lookSigns h M.n tg sh mv) h c0 t rs ts) (ht : t ≤ T) {p j : Nat} (hp : p % rnd M.n sh = 0) (hi : p + rnd M.n sh ≤ rs.length)
    (hm : j ∈ movedS h M.n tg sh rs p) : cn jobs R j (ts p) + 1 ≤ cn jobs R j (ts (p + shk M.n sh + M.n + j)) := by
  obtain ⟨a, ha, hv⟩ := movedS_mem.mp hm
  obtain ⟨hj, hjh⟩ := others_at ha
  have e : rnd M.n sh = shk M.n sh + 2 * M.n := rfl
  have f1 := I.first hp hj hi
  have f2 := I.second hp hj hi
  have tA := I.lt (p + shk M.n sh + j) (by omega)
  have tB := I.lt (p + shk M.n sh + M.n + j) (by omega)
  have oPA : ts p ≤ ts (p + shk M.n sh + j) := I.le (by omega) (by omega)
  have oAB : ts (p + shk M.n sh + j) ≤ ts (p + shk M.n sh + M.n + j) := I.le (by omega) (by omega)
  have mPA := r.mono j oPA (by omega)
  have mAB := r.mono j oAB (by omega)
  unfold mvS at hv
  rcases Bool.or_eq_true_iff.mp hv with q | q
  · obtain ⟨q1, q2⟩ := Bool.and_eq_true_iff.mp q
    have q2' : (at_ rs (p + shk M.n sh + j)).tog ≠ (at_ rs (p + shk M.n sh + M.n + j)).tog := by simpa using q2
    rw [f1, f2] at q2'
    have ne : cn jobs R j (ts (p + shk M.n sh + j)) ≠ cn jobs R j (ts (p + shk M.n sh + M.n + j)) := fun z => q2' (by rw [r.still j oAB (by omega) z])
    omega
  · obtain ⟨q1, q2⟩ := Bool.and_eq_true_iff.mp q
    have hs : sh = 1 := of_decide_eq_true q1
    have hal : a < M.n - 1 := by
      have := (List.getElem?_eq_some_iff.mp ha).1
      rw [others_length hh] at this
      exact this
    have hS : 2 * a + 1 < shk M.n sh := by unfold shk; rw [hs]; omega
    have f0 := I.shake hp (by omega) (by omega) ha
    have t0 := I.lt (p + 2 * a) (by omega)
    have o0 : ts p ≤ ts (p + 2 * a) := I.le (by omega) (by omega)
    have o1 : ts (p + 2 * a) ≤ ts (p + shk M.n sh + j) := I.le (by omega) (by omega)
    have m0 := r.mono j o0 (by omega)
    have m1 := r.mono j o1 (by omega)
    by_cases z : cn jobs R j (ts (p + 2 * a)) = cn jobs R j (ts (p + shk M.n sh + M.n + j))
    · exfalso
      have s1 := r.still j o1 (by omega) (by omega)
      have s2 := r.still j (Nat.le_trans o1 oAB) (by omega) z
      rw [f1, f2, f0, s1.symm, s2.symm] at q2
      simp at q2
    · omega

theorem look_signs (r : Run M jobs R w T) (hk : M.k = .signs tg sh mv) (hn : 1 ≤ M.n) (hsh : sh ≤ 1) (ok : (2 ≤ mv ∨ tg + sh = 0) ∧ (M.n ≤ 2 ∨ (tg = 1 ∧ sh = 1))) (hh : h < M.n) (V : Views M jobs R t)
    (Cs : sh = 1 → Calls M jobs R t) (I : Ph jobs R w (lookSigns h M.n tg sh mv) h c0 t rs ts) (ht : t ≤ T) {st : List Int} (e : lookSigns h M.n tg sh mv rs = .told st) : ∃ s, ts 0 ≤ s ∧ s < t ∧ state M.n (R s) = st := by
  have eL : rnd M.n sh = shk M.n sh + 2 * M.n := rfl
  have hgo : ∀ rs', goOnS h M.n sh rs' ≠ .told st := by
    intro rs'
    unfold goOnS
    split
    · split <;> (intro z; cases z)
    · intro z; cases z
  unfold lookSigns at e
  split at e
  · rename_i q
    obtain ⟨q1, q2⟩ := q
    have hge : rnd M.n sh ≤ rs.length := Nat.le_of_dvd q1 (Nat.dvd_of_mod_eq_zero q2)
    have z1 : (rs.length - rnd M.n sh) % rnd M.n sh = 0 := mod_sub q2 hge
    have hi : rs.length - rnd M.n sh + rnd M.n sh ≤ rs.length := by omega
    have hr : ∀ j, j < M.n → at_ rs (rs.length - M.n + j) = (R (ts (rs.length - M.n + j))).own j := fun j hj => by
      have := I.second z1 hj hi
      rw [show rs.length - rnd M.n sh + shk M.n sh + M.n + j = rs.length - M.n + j by omega] at this
      exact this
    split at e
    · rename_i q3
      injection e with e
      subst e
      rcases ok.2 with ok | ⟨ok1, ok2⟩
      · exact small r I ht ok hh (by omega) hr
      · refine direct r I ht hn (p := rs.length - rnd M.n sh + shk M.n sh) (q := rs.length - M.n) (by omega) (by omega) hr fun j hj => ?_
        have oAB : ts (rs.length - rnd M.n sh + shk M.n sh + j) ≤ ts (rs.length - M.n + j) := I.le (by omega) (by omega)
        have tB := I.lt (rs.length - M.n + j) (by omega)
        have mAB := r.mono j oAB (by omega)
        by_cases hjh : j = h
        · subst hjh
          rw [I.same _ (by omega), I.same _ (by omega)]
        · have hjo : j ∈ others h M.n := others_mem.mpr ⟨hj, hjh⟩
          obtain ⟨a, ha⟩ := List.mem_iff_getElem?.mp hjo
          have hal : a < M.n - 1 := by
            have := (List.getElem?_eq_some_iff.mp ha).1
            rw [others_length hh] at this
            exact this
          have hS : 2 * a + 1 < shk M.n sh := by unfold shk; rw [ok2]; omega
          have nomv : mvS h M.n tg sh rs (rs.length - rnd M.n sh) j a = false := by
            cases q4 : mvS h M.n tg sh rs (rs.length - rnd M.n sh) j a with
            | false => rfl
            | true =>
              have := movedS_mem.mpr ⟨a, ha, q4⟩
              rw [q3] at this
              cases this
          have f1 := I.first z1 hj hi
          have f2 := hr j hj
          have f3 := I.answer z1 hS (by omega) ha
          unfold mvS at nomv
          rw [show rs.length - rnd M.n sh + shk M.n sh + M.n + j = rs.length - M.n + j by omega] at nomv
          obtain ⟨nm1, nm2⟩ := Bool.or_eq_false_iff.mp nomv
          rw [decide_eq_true ok1, Bool.true_and] at nm1
          rw [decide_eq_true ok2, Bool.true_and] at nm2
          have nm1' : (at_ rs (rs.length - rnd M.n sh + shk M.n sh + j)).tog = (at_ rs (rs.length - M.n + j)).tog := by simpa using nm1
          have nm2' : (at_ rs (rs.length - M.n + j)).calls.getD h 0 = (at_ rs (rs.length - rnd M.n sh + 2 * a)).calls.getD h 0 := by
            simp only [Bool.not_eq_false', Bool.and_eq_true, decide_eq_true_eq] at nm2
            exact nm2.2
          by_cases z : cn jobs R j (ts (rs.length - rnd M.n sh + shk M.n sh + j)) = cn jobs R j (ts (rs.length - M.n + j))
          · exact z
          · exfalso
            obtain ⟨x, x1, x2, x3⟩ := Cs ok2 (ts (rs.length - M.n + j)) (by omega) j hj h hh (fun q => hjh q.symm) (by omega)
            rw [← f2, nm2'] at x3
            have o1 : ts (rs.length - rnd M.n sh + 2 * a + 1) ≤ ts (rs.length - rnd M.n sh + shk M.n sh + j) := I.le (by omega) (by omega)
            by_cases hx : x ≤ ts (rs.length - rnd M.n sh + 2 * a + 1)
            · have mx := r.mono j (a := x) (b := ts (rs.length - rnd M.n sh + shk M.n sh + j)) (by omega) (by omega)
              rw [f1, f2, r.tog hk j _ (by omega), r.tog hk j _ (by omega), ok1] at nm1'
              omega
            · have key := sgnKept r I ht (i0 := rs.length - rnd M.n sh + 2 * a + 1) (j := j) (i1 := rs.length - M.n + j) (by omega) (by omega) (fun i i1 i2 a' b' x' hw => by
                rw [I.goes (by omega)] at hw
                unfold goOnS at hw
                split at hw
                · rename_i hlt
                  split at hw
                  · cases hw
                  · rename_i hodd
                    injection hw with _ hw _
                    have hil : (rs.take i).length = i := by rw [List.length_take, Nat.min_eq_left (by omega)]
                    rw [hil] at hw hlt hodd
                    have him : i % rnd M.n sh = i - (rs.length - rnd M.n sh) := by
                      have : i = rs.length - rnd M.n sh + (i - (rs.length - rnd M.n sh)) := by omega
                      rw [this, mod_col z1 (by omega)]
                      omega
                    rw [him] at hw hlt hodd
                    intro hb
                    rw [hb] at hw
                    have hlen : (i - (rs.length - rnd M.n sh)) / 2 < (others h M.n).length := by
                      rw [others_length hh]
                      have : shk M.n sh = 2 * (M.n - 1) := by unfold shk; rw [ok2]
                      omega
                    rw [List.getD_eq_getElem?_getD, List.getElem?_eq_getElem hlen] at hw
                    have g : (others h M.n)[(i - (rs.length - rnd M.n sh)) / 2]? = some j := by
                      rw [List.getElem?_eq_getElem hlen]
                      exact congrArg some hw
                    have := others_inj ha g
                    omega
                · cases hw) x (by omega) x1
              rw [key, f3] at x3
              omega
    · rename_i hne
      split at e
      · rename_i j q4
        injection e with e
        subst e
        obtain ⟨hj, hcnt⟩ := oft_some q4
        rcases ok.1 with hmv | hz
        · obtain ⟨a, b, hab, hb, ha1, hb1⟩ := count_flat2 (f := fun k => movedS h M.n tg sh rs (k * rnd M.n sh)) (j := j) (fun k => movedS_count) (K := rs.length / rnd M.n sh) (Nat.le_trans hmv hcnt)
          have hdv : rs.length = rnd M.n sh * (rs.length / rnd M.n sh) := by
            have := Nat.div_add_mod rs.length (rnd M.n sh)
            omega
          have bnd : ∀ k, k < rs.length / rnd M.n sh → k * rnd M.n sh + rnd M.n sh ≤ rs.length := fun k hk' => by
            have h1 : (k + 1) * rnd M.n sh ≤ (rs.length / rnd M.n sh) * rnd M.n sh := Nat.mul_le_mul_right _ (by omega)
            rw [Nat.mul_comm (rs.length / rnd M.n sh), ← hdv] at h1
            rw [Nat.add_mul, Nat.one_mul] at h1
            exact h1
          have c1 := bumpS r hk hsh hh I ht (p := a * rnd M.n sh) (Nat.mul_mod_left _ _) (bnd a (by omega)) ha1
          have c2 := bumpS r hk hsh hh I ht (p := b * rnd M.n sh) (Nat.mul_mod_left _ _) (bnd b hb) hb1
          have ba := bnd a (by omega)
          have bb := bnd b hb
          have le1 : a * rnd M.n sh + rnd M.n sh ≤ b * rnd M.n sh := by
            have : (a + 1) * rnd M.n sh ≤ b * rnd M.n sh := Nat.mul_le_mul_right _ (by omega)
            rw [Nat.add_mul, Nat.one_mul] at this
            exact this
          have t3 := I.lt (rs.length - M.n + j) (by omega)
          have m1 := r.mono j (a := ts (a * rnd M.n sh + shk M.n sh + M.n + j)) (b := ts (b * rnd M.n sh)) (I.le (by omega) (by omega)) (by have := I.lt (b * rnd M.n sh) (by omega); omega)
          have m2 := r.mono j (a := ts (b * rnd M.n sh + shk M.n sh + M.n + j)) (b := ts (rs.length - M.n + j)) (I.le (by omega) (by omega)) (by omega)
          rw [hr j hj]
          exact viewed r I ht V hj (a := a * rnd M.n sh) (by omega) (by omega) (by omega)
        · exfalso
          have ht0 : tg = 0 := by omega
          have hs0 : sh = 0 := by omega
          apply hne
          unfold movedS mvS
          simp [ht0, hs0]
      · exact absurd e (hgo _)
  · exact absurd e (hgo _)
end
end K98

/-! ## Moment -/
namespace K98

/-- the manners that the law draws -/
inductive Right : Man → Prop where
  | once : Right ⟨2, .once⟩
  | twice (n : Nat) : 1 ≤ n → n ≤ 5 → Right ⟨n, .twice 0⟩
  | twice2 : Right ⟨2, .twice 2⟩
  | handed (n mv : Nat) : 1 ≤ n → n ≤ 5 → 2 ≤ mv → mv ≤ 4 → Right ⟨n, .handed 0 mv⟩
  | handed3 (mv : Nat) : 2 ≤ mv → mv ≤ 4 → Right ⟨2, .handed 3 mv⟩
  | signs00 : Right ⟨2, .signs 0 0 1⟩
  | signs01 (mv : Nat) : 2 ≤ mv → mv ≤ 4 → Right ⟨2, .signs 0 1 mv⟩
  | signs (n mv : Nat) : 1 ≤ n → n ≤ 5 → 2 ≤ mv → mv ≤ 4 → Right ⟨n, .signs 1 1 mv⟩
theorem Right.n1 {M : Man} (h : Right M) : 1 ≤ M.n := by cases h <;> first | assumption | exact Nat.le_of_ble_eq_true rfl
theorem Right.n5 {M : Man} (h : Right M) : M.n ≤ 5 := by cases h <;> first | assumption | exact Nat.le_of_ble_eq_true rfl

section
variable {M : Man} {jobs : Nat → Items} {R : Nat → Rm} {w : Nat → Nat} {T : Nat}

theorem lookOf_nil {k : Kd} {n h : Nat} (hn : 1 ≤ n) (st : List Int) : lookOf k n h [] ≠ .told st := by
  unfold lookOf
  split
  · unfold lookOnce; rw [if_pos (by show 0 < n; omega)]; intro e; cases e
  · unfold lookTwice; rw [if_neg (by simp; omega)]; intro e; cases e
  · unfold lookHanded; rw [if_neg (by simp; omega)]; intro e; cases e
  · unfold lookSigns; rw [if_neg (by simp)]
    unfold goOnS
    split
    · split <;> (intro e; cases e)
    · intro e; cases e

/-- a look that ends with a step: its reads and their times -/
theorem Run.phLook (r : Run M jobs R w T) (hn : 1 ≤ M.n) {t : Nat} (ht : t < T) {ts : Nat → Nat} (I : Tr R w (w t) t ts) (hd : deedAt (jobs (w t)) (tl R (w t) t).length = some .look)
    {e : Rd} (he : e = (effect (R t) (w t) (lookOf M.k M.n (w t) (rd R (w t) t))).2) :
    Ph jobs R w (lookOf M.k M.n (w t)) (w t) (cn jobs R (w t) t) (t + 1) (rd R (w t) t ++ [e]) (fun i => if i < (rd R (w t) t).length then ts i else t) := by
  obtain ⟨d', s, x, S⟩ := r.is ht
  have ed : d' = .look := by
    have q := S.deed
    have hd' : deedAt (jobs (w t)) ((R t).row (w t)).told.length = some .look := hd
    rw [hd'] at q
    exact (Option.some.inj q).symm
  subst ed
  have es : s = lookOf M.k M.n (w t) (rd R (w t) t) := S.stp
  have hlen : (rd R (w t) t ++ [e]).length = (rd R (w t) t).length + 1 := by rw [List.length_append]; rfl
  have tk : ∀ i, i ≤ (rd R (w t) t).length → (rd R (w t) t ++ [e]).take i = (rd R (w t) t).take i := fun i hi => List.take_append_of_le_length hi
  refine ⟨fun i hi => ?_, fun i j hij hj => ?_, fun i hi => ?_, fun i hi => ?_, fun i hi st => ?_, fun i hi j => ?_, fun i hi u h1 h2 h3 => ?_⟩
  · by_cases q : i < (rd R (w t) t).length
    · simp only [if_pos q]; have := I.lt i q; omega
    · simp only [if_neg q]; omega
  · by_cases q : j < (rd R (w t) t).length
    · have q' : i < (rd R (w t) t).length := by omega
      simp only [if_pos q, if_pos q']; exact I.mono i j hij q
    · have q' : i < (rd R (w t) t).length := by omega
      simp only [if_neg q, if_pos q']; exact I.lt i q'
  · by_cases q : i < (rd R (w t) t).length
    · simp only [if_pos q]; unfold cn; rw [I.told i q]
    · simp only [if_neg q]
  · by_cases q : i < (rd R (w t) t).length
    · simp only [if_pos q]
      rw [tk i (Nat.le_of_lt q), List.getElem?_append_left q]
      exact (r.read (by omega) I hd q).1
    · simp only [if_neg q]
      have : i = (rd R (w t) t).length := by omega
      subst this
      rw [tk _ (Nat.le_refl _), List.take_length, he]
      simp
  · rw [tk i (by omega)]
    cases i with
    | zero => rw [List.take_zero]; exact lookOf_nil hn st
    | succ i => exact (r.read (by omega) I hd (i := i) (by omega)).2.2.1 st
  · by_cases q : i < (rd R (w t) t).length
    · simp only [if_pos q]
      rw [tk i (Nat.le_of_lt q)]
      exact (r.read (by omega) I hd q).2.2.2 j
    · simp only [if_neg q]
      have : i = (rd R (w t) t).length := by omega
      subst this
      rw [tk _ (Nat.le_refl _), List.take_length, S.sgn, es]
  · by_cases q : i < (rd R (w t) t).length
    · simp only [if_pos q] at h1
      by_cases q2 : i + 1 < (rd R (w t) t).length
      · have h3' := h3 (by omega)
        simp only [if_pos q2] at h3'
        exact I.quiet i q u h1 (by have := I.lt _ q2; omega) fun _ => h3'
      · have h3' := h3 (by omega)
        simp only [if_neg q2] at h3'
        exact I.quiet i q u h1 h3' fun z => absurd z q2
    · simp only [if_neg q] at h1
      omega

theorem Run.phHanded (r : Run M jobs R w T) {turn mv : Nat} (hk : M.k = .handed turn mv) {h t : Nat} (ht : t ≤ T) {ts : Nat → Nat} (I : Tr R w h t ts) {v : Int} (hd : deedAt (jobs h) (tl R h t).length = some (.put v)) :
    Ph jobs R w (lookHanded M.n mv) h (cn jobs R h t) t (rd R h t) ts := by
  have rdg := fun i hi => r.read ht I hd (i := i) hi
  have notTold : ∀ i, i < (rd R h t).length → ∀ st, lookHanded M.n mv ((rd R h t).take i) ≠ .told st := fun i hi st q => by
    have z := (rdg i hi).2.1
    rw [hk] at z
    unfold nextStep at z
    simp only [putOf, q] at z
    exact z _ rfl
  have same : ∀ i, i < (rd R h t).length → nextStep M.k M.n h (.put v) (cn jobs R h t) ((rd R h t).take i) = lookHanded M.n mv ((rd R h t).take i) := fun i hi => by
    have q := notTold i hi
    rw [hk]
    unfold nextStep
    simp only [putOf]
  refine ⟨I.lt, I.mono, fun i hi => by unfold cn; rw [I.told i hi], fun i hi => ?_, notTold, fun i hi j => ?_, I.quiet⟩
  · rw [← same i hi]; exact (rdg i hi).1
  · rw [← same i hi]; exact (rdg i hi).2.2.2 j

theorem Run.phSigns (r : Run M jobs R w T) {tg sh mv : Nat} (hk : M.k = .signs tg sh mv) {h t : Nat} (ht : t ≤ T) {ts : Nat → Nat} (I : Tr R w h t ts) {v : Int} (hd : deedAt (jobs h) (tl R h t).length = some (.put v)) :
    Ph jobs R w (lookSigns h M.n tg sh mv) h (cn jobs R h t) t ((rd R h t).drop (sh * (M.n - 1))) (fun i => ts (sh * (M.n - 1) + i)) := by
  have rdg := fun i hi => r.read ht I hd (i := i) hi
  generalize hf : sh * (M.n - 1) = f at *
  have hlen : ((rd R h t).drop f).length = (rd R h t).length - f := List.length_drop
  have step : ∀ i, i < ((rd R h t).drop f).length → nextStep M.k M.n h (.put v) (cn jobs R h t) ((rd R h t).take (f + i)) =
      (match lookSigns h M.n tg sh mv (((rd R h t).drop f).take i) with
        | .told st => .wrO ⟨v, 0, (tg : Int) * (((cn jobs R h t : Int) + 1) % 2), callsOf h M.n sh (((rd R h t).take (f + i)).take f), st⟩
        | s => s) := fun i hi => by
    rw [hk]
    unfold nextStep
    simp only [putOf, hf]
    rw [if_neg (by rw [List.length_take]; omega)]
    rw [show ((rd R h t).take (f + i)).drop f = ((rd R h t).drop f).take i by rw [List.drop_take]; congr 1; omega]
    all_goals (cases lookSigns h M.n tg sh mv (((rd R h t).drop f).take i) <;> rfl)
  have notTold : ∀ i, i < ((rd R h t).drop f).length → ∀ st, lookSigns h M.n tg sh mv (((rd R h t).drop f).take i) ≠ .told st := fun i hi st q => by
    have z := (rdg (f + i) (by omega)).2.1
    rw [step i hi, q] at z
    exact z _ rfl
  have same : ∀ i, i < ((rd R h t).drop f).length → nextStep M.k M.n h (.put v) (cn jobs R h t) ((rd R h t).take (f + i)) = lookSigns h M.n tg sh mv (((rd R h t).drop f).take i) := fun i hi => by
    rw [step i hi]
    have q := notTold i hi
    split
    · rename_i st q2; exact absurd q2 (q st)
    · rfl
  refine ⟨fun i hi => I.lt _ (by omega), fun i j hij hj => I.mono _ _ (by omega) (by omega), fun i hi => by unfold cn; rw [I.told _ (by omega)], fun i hi => ?_, notTold, fun i hi j => ?_, fun i hi u h1 h2 h3 => ?_⟩
  · rw [← same i hi, List.getElem?_drop]; exact (rdg (f + i) (by omega)).1
  · rw [← same i hi]; exact (rdg (f + i) (by omega)).2.2.2 j
  · exact I.quiet (f + i) (by omega) u h1 h2 fun z => h3 (by omega)

theorem Run.viewsH (r : Run M jobs R w T) {turn mv : Nat} (hk : M.k = .handed turn mv) (hn : 1 ≤ M.n) (hmv : 2 ≤ mv) (ok : turn = 0 ∨ M.n ≤ 2) : ∀ t, t ≤ T → Views M jobs R t
  | 0, _ => fun u hu j _ hc => by
    have : u = 0 := by omega
    subst this
    rw [cn_zero r] at hc
    omega
  | t + 1, ht => by
    have ih := r.viewsH hk hn hmv ok t (by omega)
    intro u hu j hj hc
    by_cases hu' : u ≤ t
    · exact ih u hu' j hj hc
    · have : u = t + 1 := by omega
      subst this
      rcases r.count (t := t) (by omega) j with ⟨e1, e2, _⟩ | ⟨hw, e1, _, v, x, h1, h2, h3, _⟩
      · obtain ⟨s, a, b, c⟩ := ih t (Nat.le_refl _) j hj (by omega)
        exact ⟨s, by omega, by omega, by rw [e2]; exact c⟩
      · obtain ⟨ts, I⟩ := r.trace j t (by omega)
        have P := r.phHanded hk (by omega) I h1
        rw [hk] at h2
        unfold nextStep at h2
        simp only [putOf] at h2
        split at h2
        · rename_i st q
          injection h2 with h2
          subst h2
          obtain ⟨s, a, b, c⟩ := look_handed r hk hn hmv ok hj ih P (by omega) q
          refine ⟨s, by omega, ?_, by rw [h3]; exact c⟩
          have hne : 0 < (rd R j t).length := by
            by_cases z : 0 < (rd R j t).length
            · exact z
            · have : rd R j t = [] := List.eq_nil_of_length_eq_zero (by omega)
              rw [this] at q
              exact absurd q (lookOf_nil (k := .handed turn mv) (h := 0) hn st)
          have m1 := r.mono j a (by omega)
          have m2 := r.mono j (a := s) (b := t) (by omega) (by omega)
          have := P.same 0 hne
          omega
        · exact absurd h2 (lookHanded_not _ _ _ _)

theorem Run.viewsS (r : Run M jobs R w T) {tg sh mv : Nat} (hk : M.k = .signs tg sh mv) (hn : 1 ≤ M.n) (hsh : sh ≤ 1) (ok : (2 ≤ mv ∨ tg + sh = 0) ∧ (M.n ≤ 2 ∨ (tg = 1 ∧ sh = 1))) : ∀ t, t ≤ T → Views M jobs R t ∧ (sh = 1 → Calls M jobs R t)
  | 0, _ => by
    refine ⟨fun u hu j _ hc => ?_, fun _ u hu j _ i _ _ hc => ?_⟩ <;>
    · have : u = 0 := by omega
      subst this
      rw [cn_zero r] at hc
      omega
  | t + 1, ht => by
    obtain ⟨ih, ihc⟩ := r.viewsS hk hn hsh ok t (by omega)
    have both : ∀ j, j < M.n → 1 ≤ cn jobs R j (t + 1) → (∃ s, s ≤ t + 1 ∧ cn jobs R j s + 1 = cn jobs R j (t + 1) ∧ state M.n (R s) = ((R (t + 1)).own j).view) ∧
        (sh = 1 → ∀ i, i < M.n → i ≠ j → ∃ x, x ≤ t + 1 ∧ cn jobs R j x + 1 = cn jobs R j (t + 1) ∧ ((R (t + 1)).own j).calls.getD i 0 = 1 - (R x).sgn i j) := by
      intro j hj hc
      rcases r.count (t := t) (by omega) j with ⟨e1, e2, _⟩ | ⟨hw, e1, _, v, x, h1, h2, h3, _⟩
      · refine ⟨?_, fun hs i hi hij => ?_⟩
        · obtain ⟨s, a, b, c⟩ := ih t (Nat.le_refl _) j hj (by omega)
          exact ⟨s, by omega, by omega, by rw [e2]; exact c⟩
        · obtain ⟨s, a, b, c⟩ := ihc hs t (Nat.le_refl _) j hj i hi hij (by omega)
          exact ⟨s, by omega, by omega, by rw [e2]; exact c⟩
      · obtain ⟨ts, I⟩ := r.trace j t (by omega)
        have P := r.phSigns hk (by omega) I h1
        have rdg := fun i hi => r.read (by omega) I h1 (i := i) hi
        rw [hk] at h2
        unfold nextStep at h2
        simp only [putOf] at h2
        split at h2
        · cases h2
        · rename_i hfl
          split at h2
          · rename_i st q
            injection h2 with h2
            subst h2
            obtain ⟨s, a, b, c⟩ := look_signs r hk hn hsh ok hj ih ihc P (by omega) q
            refine ⟨⟨s, by omega, ?_, by rw [h3]; exact c⟩, fun hs i hi hij => ?_⟩
            · have hne : 0 < ((rd R j t).drop (sh * (M.n - 1))).length := by
                by_cases z : 0 < ((rd R j t).drop (sh * (M.n - 1))).length
                · exact z
                · have : (rd R j t).drop (sh * (M.n - 1)) = [] := List.eq_nil_of_length_eq_zero (by omega)
                  rw [this] at q
                  exact absurd q (lookOf_nil (k := .signs tg sh mv) hn st)
              have m1 := r.mono j a (by omega)
              have m2 := r.mono j (a := s) (b := t) (by omega) (by omega)
              have := P.same 0 hne
              omega
            · subst hs
              rw [Nat.one_mul] at hfl
              have hio : i ∈ others j M.n := others_mem.mpr ⟨hi, hij⟩
              have hix : (others j M.n).idxOf i < (others j M.n).length := List.idxOf_lt_length_of_mem hio
              have hg : (others j M.n)[(others j M.n).idxOf i]? = some i := by
                rw [List.getElem?_eq_getElem hix, List.getElem_idxOf]
              rw [others_length hj] at hix
              have hl : (others j M.n).idxOf i < (rd R j t).length := by omega
              have g := (rdg _ hl).1
              have st1 : nextStep M.k M.n j (.put v) (cn jobs R j t) ((rd R j t).take ((others j M.n).idxOf i)) = .rdS i j := by
                rw [hk]
                unfold nextStep
                simp only [putOf, Nat.one_mul]
                rw [if_pos (by rw [List.length_take]; omega), List.length_take, Nat.min_eq_left (by omega), List.getD_eq_getElem?_getD, hg]
                rfl
              rw [st1] at g
              refine ⟨ts ((others j M.n).idxOf i), by have := I.lt _ hl; omega, ?_, ?_⟩
              · have : cn jobs R j (ts ((others j M.n).idxOf i)) = cn jobs R j t := by unfold cn; rw [I.told _ hl]
                omega
              · rw [h3]
                show (callsOf j M.n 1 ((rd R j t).take (1 * (M.n - 1)))).getD i 0 = _
                unfold callsOf
                rw [List.getD_eq_getElem?_getD, List.getElem?_map, List.getElem?_range hi]
                simp only [Option.map_some, Option.getD_some, Nat.one_mul]
                rw [if_pos (by simp [hij]), List.getD_eq_getElem?_getD, List.getElem?_take_of_lt (by omega), g]
                rfl
          · exact absurd h2 (lookSigns_not _ _ _ _ _ _ _)
    refine ⟨fun u hu j hj hc => ?_, fun hs u hu j hj i hi hij hc => ?_⟩
    · by_cases hu' : u ≤ t
      · exact ih u hu' j hj hc
      · have : u = t + 1 := by omega
        subst this
        exact (both j hj hc).1
    · by_cases hu' : u ≤ t
      · exact ihc hs u hu' j hj i hi hij hc
      · have : u = t + 1 := by omega
        subst this
        exact (both j hj hc).2 hs i hi hij

/-- THE MOMENT: what a look told stood behind a number of steps from its first to its last -/
theorem Run.moment (r : Run M jobs R w T) (rt : Right M) {t : Nat} (ht : t < T) {ts : Nat → Nat} (I : Tr R w (w t) t ts) {st : List Int}
    (S : StepIs M jobs (R t) (R (t + 1)) (w t) .look (lookOf M.k M.n (w t) (rd R (w t) t)) (some (some st))) :
    ∃ s, (if 0 < (rd R (w t) t).length then ts 0 else t) ≤ s ∧ s ≤ t ∧ state M.n (R s) = st := by
  have hd : deedAt (jobs (w t)) (tl R (w t) t).length = some .look := S.deed
  have P := r.phLook rt.n1 ht I hd rfl
  have hh := r.hand t ht
  have e : lookOf M.k M.n (w t) (rd R (w t) t ++ [(effect (R t) (w t) (lookOf M.k M.n (w t) (rd R (w t) t))).2]) = .told st := by
    have q := S.end_
    unfold ended at q
    split at q
    · rename_i z; exact absurd z (lookOf_not _ _ _ _ _)
    · split at q
      · rename_i st' z
        cases q
        exact z
      · cases q
  have fin : (∃ s, (if 0 < (rd R (w t) t).length then ts 0 else t) ≤ s ∧ s < t + 1 ∧ state M.n (R s) = st) → ∃ s, (if 0 < (rd R (w t) t).length then ts 0 else t) ≤ s ∧ s ≤ t ∧ state M.n (R s) = st :=
    fun ⟨s, a, b, c⟩ => ⟨s, a, by omega, c⟩
  apply fin
  obtain ⟨n, k⟩ := M
  have two : (1 : Nat) ≤ 2 := by decide
  have two2 : (2 : Nat) ≤ 2 := by decide
  cases rt with
  | once => exact look_once r two2 hh P (by omega) e
  | twice _ h1 h5 => exact look_twice r (turn := 0) rfl h1 (.inl rfl) hh P (by omega) e
  | twice2 => exact look_twice r (turn := 2) rfl two (.inr two2) hh P (by omega) e
  | handed _ mv h1 h5 h2 h4 => exact look_handed r (turn := 0) rfl h1 h2 (.inl rfl) hh (r.viewsH (turn := 0) rfl h1 h2 (.inl rfl) (t + 1) (by omega)) P (by omega) e
  | handed3 mv h2 h4 => exact look_handed r (turn := 3) rfl two h2 (.inr two2) hh (r.viewsH (turn := 3) rfl two h2 (.inr two2) (t + 1) (by omega)) P (by omega) e
  | signs00 =>
    have ok : (2 ≤ 1 ∨ 0 + 0 = 0) ∧ (2 ≤ 2 ∨ (0 = 1 ∧ 0 = 1)) := by decide
    have v := r.viewsS (tg := 0) (sh := 0) (mv := 1) rfl two (by decide) ok (t + 1) (by omega)
    exact look_signs r (tg := 0) (sh := 0) (mv := 1) rfl two (by decide) ok hh v.1 v.2 P (by omega) e
  | signs01 mv h2 h4 =>
    have ok : (2 ≤ mv ∨ 0 + 1 = 0) ∧ (2 ≤ 2 ∨ (0 = 1 ∧ 1 = 1)) := ⟨.inl h2, .inl (by decide)⟩
    have v := r.viewsS (tg := 0) (sh := 1) (mv := mv) rfl two (by decide) ok (t + 1) (by omega)
    exact look_signs r (tg := 0) (sh := 1) (mv := mv) rfl two (by decide) ok hh v.1 v.2 P (by omega) e
  | signs _ mv h1 h5 h2 h4 =>
    have ok : (2 ≤ mv ∨ 1 + 1 = 0) ∧ (n ≤ 2 ∨ (1 = 1 ∧ 1 = 1)) := ⟨.inl h2, .inr ⟨rfl, rfl⟩⟩
    have v := r.viewsS (tg := 1) (sh := 1) (mv := mv) rfl h1 (by decide) ok (t + 1) (by omega)
    exact look_signs r (tg := 1) (sh := 1) (mv := mv) rfl h1 (by decide) ok hh v.1 v.2 P (by omega) e
end
end K98

/-! ## Spec0 -/
/-! How the typed things are written as data; what the readings come to: the words. -/
namespace K98
open PySem PySem.Spec PyProof.Rows

/-! ### the words' worth, one step each -/
section
variable {f g : List Vl → Option Out} {fa fb fc : List Vl → Option Vl} {fs : List Vl → Option (List Vl)} {ga gb : List Vl → Option Bool} {env e : List Vl} {r : Option Out} {v : Rt} {x : D} {xs : List D} {i : Nat}
theorem sSeq_nx (h1 : f env = some (.nx e)) (h2 : g e = r) : sSeq f g env = r := by unfold sSeq; rw [h1]; exact h2
theorem sSeq_rt (h1 : f env = some (.rt v)) : sSeq f g env = some (.rt v) := by unfold sSeq; rw [h1] <;> rfl
theorem sIf_t (h1 : ga env = some true) (h2 : f env = r) : sIf ga f g env = r := by unfold sIf; rw [h1]; exact h2
theorem sIf_f (h1 : ga env = some false) (h2 : g env = r) : sIf ga f g env = r := by unfold sIf; rw [h1]; exact h2
theorem sNil_nx : sNil env = some (.nx env) := rfl
theorem sRet_d (h : fa env = some (.d x)) : sRet fa env = some (.rt (.d x)) := by unfold sRet; rw [h] <;> rfl
theorem sRet_o (h : fa env = some (.o xs)) : sRet fa env = some (.rt (.o xs)) := by unfold sRet; rw [h] <;> rfl
theorem sRet_u (h : fa env = some (.u xs)) : sRet fa env = some (.rt (.o xs)) := by unfold sRet; rw [h] <;> rfl
theorem sAsg_d (h : fa env = some (.d x)) : sAsg i fa env = some (.nx (env.set i (.d x))) := by unfold sAsg; rw [h] <;> rfl
theorem sAsg_o (h : fa env = some (.o xs)) : sAsg i fa env = some (.nx (env.set i (.o xs))) := by unfold sAsg; rw [h] <;> rfl
theorem fnD_rt {n m : Nat} {as : List Vl} (hn : as.length = n) (h : f (as ++ List.replicate m .un) = some (.rt v)) : fnD n m f as = some v := by unfold fnD; rw [if_pos hn, h] <;> rfl
theorem eCall_ok {n : Nat} {F : List Vl → Option Rt} {vals : List Vl} (h1 : fs env = some vals) (h2 : F (vals.map toArg) = some v) (h3 : vals.length = n ∧ (vals.map toArg).all argOk = true := by exact ⟨rfl, rfl⟩) : eCall n F fs env = some v.v := by
  unfold eCall; rw [h1]; simp only [Option.bind_some]; rw [if_pos h3, h2] <;> rfl
theorem aCons_ok {v : Vl} {vs : List Vl} (h1 : fa env = some v) (h2 : fs env = some vs) : aCons fa fs env = some (v :: vs) := by unfold aCons; rw [h1, h2] <;> rfl
theorem cAnd_t (h1 : ga env = some true) {k : Bool} (h2 : gb env = some k) : cAnd ga gb env = some k := by unfold cAnd; rw [h1]; exact h2
theorem cAnd_f (h1 : ga env = some false) : cAnd ga gb env = some false := by unfold cAnd; rw [h1] <;> rfl
theorem cOr_t (h1 : ga env = some true) : cOr ga gb env = some true := by unfold cOr; rw [h1] <;> rfl
theorem cOr_f (h1 : ga env = some false) {k : Bool} (h2 : gb env = some k) : cOr ga gb env = some k := by unfold cOr; rw [h1]; exact h2
theorem e2_ok {h : Vl → Vl → Option Vl} {a b : Vl} (h1 : fa env = some a) (h2 : fb env = some b) : e2 h fa fb env = h a b := by unfold e2; rw [h1, h2] <;> rfl
theorem t2_ok {h : Vl → Vl → Option Bool} {a b : Vl} (h1 : fa env = some a) (h2 : fb env = some b) : t2 h fa fb env = h a b := by unfold t2; rw [h1, h2] <;> rfl
theorem eB1_ok {h : Vl → Option Vl} {a : Vl} (h1 : fa env = some a) : eB1 h (aCons fa aNil) env = h a := by unfold eB1 eC aCons aNil; rw [h1] <;> rfl
theorem cEq_int {a b : Int} (h1 : fa env = some (.d (.int a))) (h2 : fb env = some (.d (.int b))) : cEq fa fb env = some (decide (a = b)) := by
  unfold cEq
  rw [t2_ok h1 h2]
  by_cases h : a = b <;> simp [gEq, deepOf, pd, PyData.eqv, h, show SeqAt.shaped (.int a) = true from rfl, show SeqAt.shaped (.int b) = true from rfl]
theorem cNe_int {a b : Int} (h1 : fa env = some (.d (.int a))) (h2 : fb env = some (.d (.int b))) : cNe fa fb env = some (!decide (a = b)) := by
  unfold cNe
  rw [t2_ok h1 h2]
  by_cases h : a = b <;> simp [gNe, deepOf, pd, PyData.eqv, h, show SeqAt.shaped (.int a) = true from rfl, show SeqAt.shaped (.int b) = true from rfl]
end

/-! ### walks -/
theorem lcM_map {α : Type} {gd : D → List Vl → Option (List Vl)} {test : List Vl → Option Bool} {elt : List Vl → Option Vl} {envw : List Vl} (f : α → D) (p : α → Bool) (g : α → D) : ∀ (l : List α),
    (∀ a ∈ l, ∃ e2, gd (f a) envw = some e2 ∧ test e2 = some (p a) ∧ (p a = true → elt e2 = some (.d (g a)))) → lcM gd test elt envw (l.map f) = some ((l.filter p).map g)
  | [], _ => rfl
  | a :: l, h => by
    obtain ⟨e2, h1, h2, h3⟩ := h a List.mem_cons_self
    have ih := lcM_map f p g l fun b hb => h b (List.mem_cons_of_mem _ hb)
    rw [List.map_cons, lcM, h1]
    simp only [Option.bind_some, h2]
    by_cases hp : p a = true
    · rw [if_pos hp, h3 hp, List.filter_cons, if_pos hp]
      simp only [Option.bind_some, ih, Option.map_some]
      rfl
    · rw [if_neg hp, List.filter_cons, if_neg hp]
      exact ih
theorem rowI_nat (n : Nat) : rowI 0 1 n = (List.range n).map fun (i : Nat) => D.int (i : Int) := by
  unfold rowI
  apply List.map_congr_left
  intro i _
  congr 1
  omega
theorem lims_nat {n : Nat} (h : n ≤ 1000) : lims (n : Int) = true := by
  unfold lims
  rw [Bool.and_eq_true, decide_eq_true_eq, decide_eq_true_eq]
  constructor
  · exact Int.le_trans (by decide) (Int.natCast_nonneg n)
  · exact Int.lt_of_le_of_lt (Int.ofNat_le.mpr h) (by decide)
theorem rngV {n : Nat} (hn : n ≤ 1000) : ((intOf (.d (.int (n : Int)))).bind fun j => if lims j = true then some (rowI 0 1 j.toNat) else none) = some ((List.range n).map fun (i : Nat) => D.int (i : Int)) := by
  have e1 : intOf (.d (.int (n : Int))) = some (n : Int) := rfl
  rw [e1, Option.bind_some, if_pos (lims_nat hn), Int.toNat_natCast, rowI_nat]
theorem sRng1_at {fa : List Vl → Option Vl} {env : List Vl} {n : Nat} (hn : n ≤ 1000) (ha : fa env = some (.d (.int n))) : sRng1 (aCons fa aNil) env = some ((List.range n).map fun (i : Nat) => D.int (i : Int)) := by
  unfold sRng1
  rw [aCons_ok ha (show aNil env = some [] from rfl), Option.bind_some]
  exact rngV hn
/-- a comprehension over range(n) -/
theorem lc_rng {elt : List Vl → Option Vl} {test : List Vl → Option Bool} {i : Nat} {vs : List Nat} {fa : List Vl → Option Vl} {env : List Vl} {n : Nat} (p : Nat → Bool) (g : Nat → D) (hn : n ≤ 1000) (ha : fa env = some (.d (.int n)))
    (h : ∀ j, j < n → test ((wipeE env vs).set i (.d (.int (j : Int)))) = some (p j) ∧ (p j = true → elt ((wipeE env vs).set i (.d (.int (j : Int)))) = some (.d (g j)))) :
    eLc (sRng1 (aCons fa aNil)) (gN i) test elt vs env = some (.o (((List.range n).filter p).map g)) := by
  have e := sRng1_at (fa := fa) (env := env) hn ha
  unfold eLc
  rw [e]
  simp only [Option.bind_some, List.length_map, List.length_range, if_pos hn]
  rw [lcM_map (fun (i : Nat) => D.int (i : Int)) p g]
  · rfl
  · intro j hj
    obtain ⟨h1, h2⟩ := h j (List.mem_range.mp hj)
    exact ⟨_, rfl, h1, h2⟩
/-- .. over the items of a list or tuple -/
theorem lc_all {src : List Vl → Option (List D)} {elt : List Vl → Option Vl} {test : List Vl → Option Bool} {gd : D → List Vl → Option (List Vl)} {vs : List Nat} {env : List Vl} {α : Type} {l : List α} (f : α → D) (p : α → Bool) (g : α → D) (hs : src env = some (l.map f)) (hn : l.length ≤ 1000)
    (h : ∀ a ∈ l, ∃ e2, gd (f a) (wipeE env vs) = some e2 ∧ test e2 = some (p a) ∧ (p a = true → elt e2 = some (.d (g a)))) : eLc src gd test elt vs env = some (.o ((l.filter p).map g)) := by
  unfold eLc
  rw [hs]
  simp only [Option.bind_some, List.length_map, if_pos hn, lcM_map f p g l h, Option.map_some]

/-! ### encodings -/
def nI (n : Nat) : D := .int (n : Int)
def tInts (xs : List Int) : D := .tup (xs.map D.int)
def encC (k : Kd) (c : C) : D := match k with
  | .once => .int c.val
  | .twice _ => .tup [.int c.val, .int c.num]
  | .handed _ _ => .tup [.int c.val, .int c.num, tInts c.view]
  | .signs _ _ _ => .tup [.int c.val, tInts c.calls, .int c.tog, tInts c.view]
def encRd (k : Kd) : Rd → D
  | .c x => encC k x
  | .b i => .int i
  | .n => .non
def encRds (k : Kd) (rs : List Rd) : D := .tup (rs.map (encRd k))
def encDeed (h : Nat) : Deed → D
  | .look => .tk [.str "look"]
  | .put v => .tup [.str "put", nI h, .int v]
def encMan (M : Man) : D := match M.k with
  | .once => .tup [.str "once", nI M.n]
  | .twice t => .tup [.str "twice", nI M.n, nI t]
  | .handed t m => .tup [.str "handed", nI M.n, nI t, nI m]
  | .signs t s m => .tup [.str "signs", nI M.n, nI t, nI s, nI m]
def kOwn (j : Nat) : D := .tup [.str "own", nI j]
def kSgn (i j : Nat) : D := .tup [.str "sign", nI i, nI j]
def encStp (k : Kd) (h : Nat) : Stp → D
  | .rdO j => .tup [.str "read", kOwn j]
  | .rdS i j => .tup [.str "read", kSgn i j]
  | .wrS i j x => .tup [.str "write", kSgn i j, .int x]
  | .wrO x => .tup [.str "write", kOwn h, encC k x]
  | .told st => .tup [.str "told", tInts st]
  | .fin => .tup [.str "told", .non]

/-! ### the leaves -/
theorem f_others (h n : Nat) (hn : n ≤ 1000) : F_others [.d (nI h), .d (nI n)] = some (.o ((others h n).map nI)) := by
  refine fnD_rt rfl (sRet_o (lc_rng (n := n) (fun j => j != h) nI hn rfl fun j hj => ⟨?_, fun _ => rfl⟩))
  rw [cNe_int (a := (j : Int)) (b := (h : Int)) rfl rfl]
  by_cases e : j = h
  · subst e; simp
  · have : ¬ ((j : Int) = (h : Int)) := by omega
    simp [e, this]
theorem f_own_read (j : Nat) : F_own_read [.d (nI j)] = some (.d (.tup [.str "read", kOwn j])) := rfl
theorem f_number_behind (turn many : Nat) (ht : turn < 1000) : F_number_behind [.d (nI many), .d (nI turn)] = some (.d (.int (numOf turn many))) := by
  unfold numOf
  by_cases h : turn = 0
  · rw [if_pos h]
    refine fnD_rt rfl (sSeq_rt (sIf_t ?_ (sRet_d rfl)))
    rw [cEq_int (a := (turn : Int)) (b := 0) rfl rfl, h]
    rfl
  · rw [if_neg h]
    have h1 : ¬ ((turn : Int) = 0) := by omega
    have h2 : (0 : Int) < (turn : Int) := by omega
    refine fnD_rt rfl (sSeq_nx (sIf_f ?_ sNil_nx) (sRet_d ?_))
    · rw [cEq_int (a := (turn : Int)) (b := 0) rfl rfl, decide_eq_false h1]
    · show gI (fun i j => if 0 < j then some (i % j) else none) (.d (.int ((many : Int) + 1))) (.d (.int (turn : Int))) = _
      show ((if 0 < (turn : Int) then some (((many : Int) + 1) % (turn : Int)) else none).map fun k => Vl.d (.int k)) = _
      rw [if_pos h2] <;> rfl
end K98

/-! ## Spec1 -/
/-! Looks and puts: once, twice, handed. -/
namespace K98
open PySem PySem.Spec PyProof.Rows L2
section
variable {fa fb fc : List Vl → Option Vl} {fs : List Vl → Option (List Vl)} {env e : List Vl} {x : D} {xs : List D}
theorem eIx_at {v : Vl} {j : Nat} (h1 : fa env = some v) (h2 : seqOf v = some xs) (h3 : fb env = some (.d (.int (j : Int)))) (h4 : xs[j]? = some x) : eIx fa fb env = some (.d x) := by
  unfold eIx
  rw [e2_ok h1 h3]
  unfold gIx
  rw [h2, Option.bind_some, show intOf (.d (.int (j : Int))) = some (j : Int) from rfl, Option.bind_some, atI_nat h4] <;> rfl
theorem eIx_last {v : Vl} (h1 : fa env = some v) (h2 : seqOf v = some xs) (h3 : fb env = some (.d (.int (-1)))) (h4 : xs[xs.length - 1]? = some x) : eIx fa fb env = some (.d x) := by
  unfold eIx
  rw [e2_ok h1 h3]
  unfold gIx
  have e : atI xs (-1) = some x := by
    have hl := (List.getElem?_eq_some_iff.mp h4).1
    unfold atI ixN
    rw [if_neg (by decide), if_pos (by omega)]
    have : (-1 + (xs.length : Int)).toNat = xs.length - 1 := by omega
    rw [Option.bind_some, this, h4]
  rw [h2, Option.bind_some, show intOf (.d (.int (-1))) = some (-1) from rfl, Option.bind_some, e] <;> rfl
theorem gI_ok {f : Int → Int → Option Int} {i j k : Int} (h : f i j = some k) : gI f (.d (.int i)) (.d (.int j)) = some (.d (.int k)) := by
  unfold gI
  rw [show intOf (.d (.int i)) = some i from rfl, Option.bind_some, show intOf (.d (.int j)) = some j from rfl, Option.bind_some, h] <;> rfl
theorem eMul_ok {i j : Int} (h1 : fa env = some (.d (.int i))) (h2 : fb env = some (.d (.int j))) (h3 : -1000000 ≤ i ∧ i ≤ 1000000) : eMul fa fb env = some (.d (.int (i * j))) := by
  unfold eMul
  rw [e2_ok h1 h2]
  have b1 : -(2 ^ 64) < i := Int.lt_of_lt_of_le (by decide) h3.1
  have b2 : i < 2 ^ 64 := Int.lt_of_le_of_lt h3.2 (by decide)
  exact gI_ok (if_pos (.inl ⟨b1, b2⟩))
theorem eMod_ok {i j : Nat} (h1 : fa env = some (.d (.int (i : Int)))) (h2 : fb env = some (.d (.int (j : Int)))) (h3 : 0 < j) : eMod fa fb env = some (.d (nI (i % j))) := by
  unfold eMod
  rw [e2_ok h1 h2, gI_ok (if_pos (show (0 : Int) < (j : Int) by omega))]
  rfl
theorem eDiv_ok {i j : Nat} (h1 : fa env = some (.d (.int (i : Int)))) (h2 : fb env = some (.d (.int (j : Int)))) (h3 : 0 < j ∧ j ≤ 1000) : eDiv fa fb env = some (.d (nI (i / j))) := by
  unfold eDiv
  rw [e2_ok h1 h2, gI_ok (if_pos (show (0 : Int) < (j : Int) ∧ (j : Int) < 1073741824 by omega))]
  rfl
theorem eSub_ok {i j : Nat} (h1 : fa env = some (.d (.int (i : Int)))) (h2 : fb env = some (.d (.int (j : Int)))) (h3 : j ≤ i) : eSub fa fb env = some (.d (nI (i - j))) := by
  unfold eSub
  rw [e2_ok h1 h2]
  show some (Vl.d (.int ((i : Int) - (j : Int)))) = _
  unfold nI
  rw [Int.ofNat_sub h3]
theorem eAdd_ok {i j : Nat} (h1 : fa env = some (.d (.int (i : Int)))) (h2 : fb env = some (.d (.int (j : Int)))) : eAdd fa fb env = some (.d (nI (i + j))) := by
  unfold eAdd
  rw [e2_ok h1 h2] <;> rfl
theorem eMulN_ok {i j : Nat} (h1 : fa env = some (.d (.int (i : Int)))) (h2 : fb env = some (.d (.int (j : Int)))) (h3 : i ≤ 1000000) : eMul fa fb env = some (.d (nI (i * j))) := by
  rw [eMul_ok h1 h2 (by omega)]
  unfold nI
  rw [Int.natCast_mul]
theorem eLen_ok {v : Vl} (h1 : fa env = some v) (h2 : seqOf v = some xs) : eB1 gLen (aCons fa aNil) env = some (.d (nI xs.length)) := by
  rw [eB1_ok h1]
  unfold gLen
  rw [h2] <;> rfl
theorem cLt_ok {i j : Int} (h1 : fa env = some (.d (.int i))) (h2 : fb env = some (.d (.int j))) : cLt fa fb env = some (decide (i < j)) := by unfold cLt; rw [t2_ok h1 h2] <;> rfl
theorem cGt_ok {i j : Int} (h1 : fa env = some (.d (.int i))) (h2 : fb env = some (.d (.int j))) : cGt fa fb env = some (decide (j < i)) := by unfold cGt; rw [t2_ok h1 h2] <;> rfl
theorem cGe_ok {i j : Int} (h1 : fa env = some (.d (.int i))) (h2 : fb env = some (.d (.int j))) : cGe fa fb env = some (decide (j ≤ i)) := by unfold cGe; rw [t2_ok h1 h2] <;> rfl
theorem eSl_ok {lo hi : List Vl → Option (Option Int)} {l h : Option Int} (h1 : fa env = some (.d (.tup xs))) (h2 : lo env = some l) (h3 : hi env = some h) : eSl fa lo hi env = some (.d (.tup (cutD xs l h))) := by
  unfold eSl; rw [h1, h2, h3] <;> rfl
theorem oSome_ok {i : Int} (h : fa env = some (.d (.int i))) : oSome fa env = some (some i) := by unfold oSome; rw [h] <;> rfl
theorem eTup_ok {vs : List Vl} {ds : List D} (h1 : fs env = some vs) (h2 : dats vs = some ds) (h3 : ds.length ≤ 1000) : eTup fs env = some (.d (.tup ds)) := by
  unfold eTup; rw [h1, Option.bind_some, h2, Option.bind_some, if_pos h3]
/-! ### cuts -/
theorem cut_nn {a b : Nat} (h : a ≤ b) (hb : b ≤ xs.length) : cutD xs (some (a : Int)) (some (b : Int)) = (xs.drop a).take (b - a) := by
  unfold cutD
  rw [HT.sIx_nat, HT.sIx_nat, Nat.min_eq_left (show a ≤ xs.length by omega), Nat.min_eq_left hb]
theorem cut_to {b : Nat} (hb : b ≤ xs.length) : cutD xs none (some (b : Int)) = xs.take b := by
  unfold cutD
  rw [HT.sIx_nat, HT.sIx_none, Nat.min_eq_left hb, List.drop_zero, Nat.sub_zero]
theorem cut_from {a : Nat} (ha : a ≤ xs.length) : cutD xs (some (a : Int)) none = xs.drop a := by
  unfold cutD
  rw [HT.sIx_nat, HT.sIx_none, Nat.min_eq_left ha]
  exact List.take_of_length_le (by rw [List.length_drop]; omega)
theorem sIx_neg {n d k : Nat} (h1 : 1 ≤ k) (h2 : k ≤ n) : HT.sIx n d (some (-(k : Int))) = n - k := by
  show (if -(k : Int) < 0 then (-(k : Int) + (n : Int)).toNat else min (-(k : Int)).toNat n) = n - k
  rw [if_pos (by omega)]
  omega
theorem cut_neg {n : Nat} (h1 : 1 ≤ n) (h2 : n ≤ xs.length) : cutD xs (some (-(n : Int))) none = xs.drop (xs.length - n) := by
  unfold cutD
  rw [sIx_neg h1 h2, HT.sIx_none]
  exact List.take_of_length_le (by rw [List.length_drop]; omega)
theorem cut_neg2 {n : Nat} (h1 : 1 ≤ n) (h2 : 2 * n ≤ xs.length) : cutD xs (some (-2 * (n : Int))) (some (-(n : Int))) = (xs.drop (xs.length - 2 * n)).take n := by
  have e : (-2 * (n : Int)) = -((2 * n : Nat) : Int) := by omega
  unfold cutD
  rw [e, sIx_neg (by omega) h2, sIx_neg h1 (by omega)]
  congr 1
  omega
theorem cut_init : cutD xs none (some (-1)) = xs.take (xs.length - 1) := by
  unfold cutD
  rw [HT.sIx_none, List.drop_zero, Nat.sub_zero]
  congr 1
  show (if (-1 : Int) < 0 then (-1 + (xs.length : Int)).toNat else min (-1 : Int).toNat xs.length) = _
  rw [if_pos (by decide)]
  omega
end

/-! ### reads that are contents -/
def isC (rs : List Rd) (i : Nat) : Prop := ∃ c, rs[i]? = some (.c c)
theorem isC.lt {rs : List Rd} {i : Nat} (h : isC rs i) : i < rs.length := by obtain ⟨c, h⟩ := h; exact (List.getElem?_eq_some_iff.mp h).1
theorem isC.enc {rs : List Rd} {i : Nat} (h : isC rs i) (k : Kd) : (rs.map (encRd k))[i]? = some (encC k (at_ rs i)) := by
  obtain ⟨c, h⟩ := h
  rw [List.getElem?_map, h]
  unfold at_
  rw [List.getD_eq_getElem?_getD, h] <;> rfl
def allC (rs : List Rd) : Prop := ∀ i, i < rs.length → isC rs i

/-- changed_at, at the place 1 -/
theorem f_changed {xs ys : List D} {n : Nat} (hx : xs.length = n) (hn : n ≤ 1000) (a b : Nat → Int) (ha : ∀ j, j < n → ∃ l, xs[j]? = some (.tup l) ∧ l[1]? = some (.int (a j))) (hb : ∀ j, j < n → ∃ l, ys[j]? = some (.tup l) ∧ l[1]? = some (.int (b j))) :
    F_changed_at [.d (.tup xs), .d (.tup ys), .d (.int 1)] = some (.o (((List.range n).filter fun j => a j != b j).map nI)) := by
  subst hx
  refine fnD_rt rfl (sRet_o (lc_rng (n := xs.length) (fun j => a j != b j) nI hn rfl fun j hj => ⟨?_, fun _ => rfl⟩))
  obtain ⟨l, h1, h2⟩ := ha j hj
  obtain ⟨m, h3, h4⟩ := hb j hj
  rw [cNe_int (a := a j) (b := b j) (eIx_at (j := 1) (eIx_at (j := j) rfl rfl rfl h1) rfl rfl h2) (eIx_at (j := 1) (eIx_at (j := j) rfl rfl rfl h3) rfl rfl h4)]
  by_cases e : a j = b j <;> simp [e]
theorem f_last {xs : List D} {n : Nat} (h1 : 1 ≤ n) (h2 : 2 * n ≤ xs.length) (hn : n ≤ 1000) : F_last_collects [.d (.tup xs), .d (nI n)] = some (.d (.tup [.tup ((xs.drop (xs.length - 2 * n)).take n), .tup (xs.drop (xs.length - n))])) := by
  refine fnD_rt rfl (sRet_d (eTup_ok (aCons_ok (eSl_ok rfl (oSome_ok (eMul_ok (i := -2) (j := (n : Int)) rfl rfl (by decide))) (oSome_ok (i := -(n : Int)) rfl)) (aCons_ok (eSl_ok rfl (oSome_ok (i := -(n : Int)) rfl) rfl) rfl)) ?_ (by simp)))
  rw [cut_neg2 h1 h2, cut_neg h1 (by omega)]
  rfl
/-- values_of -/
theorem f_values {xs : List D} (hn : xs.length ≤ 1000) (a : D → Int) (ha : ∀ d ∈ xs, ∃ l, d = .tup l ∧ l[0]? = some (.int (a d))) : F_values_of [.d (.tup xs)] = some (.d (tInts (xs.map a))) := by
  have e : eLc (sTup (eVar 0)) (gN 1) cYes (eIx (eVar 1) (eD (.int 0))) [1] [.d (.tup xs), .un] = some (.o (((xs.filter fun _ => true)).map fun d => D.int (a d))) := by
    refine lc_all (l := xs) id (fun _ => true) (fun d => .int (a d)) (by rw [List.map_id]; rfl) hn fun d hd => ⟨_, rfl, rfl, fun _ => ?_⟩
    obtain ⟨l, h1, h2⟩ := ha d hd
    subst h1
    exact eIx_at (j := 0) rfl rfl rfl h2
  refine fnD_rt rfl (sRet_d ((eB1_ok e).trans ?_))
  rw [List.filter_eq_self.mpr fun _ _ => rfl]
  unfold tInts
  rw [List.map_map]
  rfl
/-- x == [] -/
theorem cEq_nil {fa : List Vl → Option Vl} {env : List Vl} {ns : List Nat} (h : fa env = some (.o (ns.map nI))) : cEq fa (eLst aNil) env = some (decide (ns = [])) := by
  unfold cEq
  rw [t2_ok h (show eLst aNil env = some (.o []) from rfl)]
  have hs : ∀ l : List Nat, SeqAt.shaped (.list (pds (l.map nI))) = true := fun l => by
    have h1 : PyData.canLayAll0 (pds (l.map nI)) = true := by
      induction l with
      | nil => rfl
      | cons a r ih => rw [List.map_cons]; show (PyData.canLay0 (.int _) && PyData.canLayAll0 (pds (r.map nI))) = true; rw [ih] <;> rfl
    have h2 : PyData.depthAll (pds (l.map nI)) = 0 := by
      clear h1
      induction l with
      | nil => rfl
      | cons a r ih => rw [List.map_cons]; show max (PyData.depth (.int _)) (PyData.depthAll (pds (r.map nI))) = 0; rw [ih] <;> rfl
    show (PyData.canLayAll0 (pds (l.map nI)) && decide (PyData.depthAll (pds (l.map nI)) + 1 ≤ 64)) = true
    rw [h1, h2] <;> rfl
  unfold gEq
  rw [show deepOf (.o (ns.map nI)) = some (.list (pds (ns.map nI))) from rfl, show deepOf (.o []) = some (.list []) from rfl, Option.bind_some, Option.bind_some, if_pos ⟨hs ns, rfl⟩]
  cases ns with
  | nil => rfl
  | cons a r => rfl
end K98

/-! ## Spec2 -/
/-! Looks and puts: once, twice, handed (2). -/
namespace K98
open PySem PySem.Spec PyProof.Rows L2

/-! ### range(0, b, c) -/
def stepN (b c : Nat) : Nat := if 0 < b then (b - 1) / c + 1 else 0
theorem rsize {b c : Nat} (hc : 1 ≤ c) : Builtin.Range.rangeSize 0 (b : Int) (c : Int) = (stepN b c : Int) := by
  unfold Builtin.Range.rangeSize stepN
  rw [if_pos (show (c : Int) > 0 by omega)]
  by_cases hb : 0 < b
  · rw [if_pos (show (0 : Int) < (b : Int) by omega), if_pos hb]
    have e : ((b : Int) - 0 - 1) = ((b - 1 : Nat) : Int) := by omega
    rw [e, ← Int.natCast_ediv]
    rfl
  · rw [if_neg (show ¬ (0 : Int) < (b : Int) by omega), if_neg hb]
    rfl
theorem stepN_le {b c : Nat} (hc : 1 ≤ c) : stepN b c ≤ b := by
  unfold stepN
  split
  · have := Nat.div_le_self (b - 1) c
    omega
  · omega
theorem small_step {b c : Nat} (hc : 1 ≤ c) (hc2 : c ≤ 1000) (hb : b ≤ 1000) : Builtin.Range.small 0 (b : Int) (c : Int) = true := by
  have h1 := stepN_le (b := b) hc
  unfold Builtin.Range.small
  rw [rsize hc]
  simp only [Builtin.Range.rangeFitsLong, Bool.and_eq_true, Bool.or_eq_true, decide_eq_true_eq, beq_iff_eq, show (c : Int) > 0 by omega, if_true]
  omega
theorem sRng3_at {fa fb fc : List Vl → Option Vl} {env : List Vl} {b c : Nat} (hc : 1 ≤ c) (hc2 : c ≤ 1000) (hb : b ≤ 1000) (h1 : fa env = some (.d (.int 0))) (h2 : fb env = some (.d (.int (b : Int)))) (h3 : fc env = some (.d (.int (c : Int)))) :
    sRng3 (aCons fa (aCons fb (aCons fc aNil))) env = some ((List.range (stepN b c)).map fun (i : Nat) => nI (i * c)) := by
  unfold sRng3
  rw [aCons_ok h1 (aCons_ok h2 (aCons_ok h3 (show aNil env = some [] from rfl))), Option.bind_some]
  show (intOf (.d (.int 0))).bind _ = _
  rw [show intOf (.d (.int 0)) = some 0 from rfl, Option.bind_some, show intOf (.d (.int (b : Int))) = some (b : Int) from rfl, Option.bind_some, show intOf (.d (.int (c : Int))) = some (c : Int) from rfl, Option.bind_some]
  rw [if_pos ⟨by omega, by omega, small_step hc hc2 hb, by rw [rsize hc]; omega⟩, rsize hc, Int.toNat_natCast]
  congr 1
  unfold rowI nI
  apply List.map_congr_left
  intro i _
  rw [Int.natCast_mul, Int.zero_add]
theorem forM_inv {gd : D → List Vl → Option (List Vl)} {body : List Vl → Option Out} (Inv : Nat → List Vl → Prop) : ∀ (ds : List D) (i : Nat) (env : List Vl), Inv i env →
    (∀ j d env, ds[j]? = some d → Inv (i + j) env → ∃ e2 e3, gd d env = some e2 ∧ body e2 = some (.nx e3) ∧ Inv (i + j + 1) e3) → ∃ e', forM gd body ds env = some (.nx e') ∧ Inv (i + ds.length) e'
  | [], i, env, h, _ => ⟨env, rfl, h⟩
  | d :: r, i, env, h, hs => by
    obtain ⟨e2, e3, h1, h2, h3⟩ := hs 0 d env rfl h
    obtain ⟨e', h4, h5⟩ := forM_inv Inv r (i + 1) e3 h3 fun j d' env' hj hi => by
      have e : i + (j + 1) = i + 1 + j := by omega
      have := hs (j + 1) d' env' (by simpa using hj) (by rw [e]; exact hi)
      rw [e] at this
      exact this
    refine ⟨e', ?_, by rw [List.length_cons, show i + (r.length + 1) = i + 1 + r.length by omega]; exact h5⟩
    rw [forM, h1]
    show (body e2).bind _ = _
    rw [h2]
    exact h4

/-! ### seen_often -/
theorem ints_nI : ∀ l : List Nat, intsOf (l.map nI) = some (l.map fun (j : Nat) => (j : Int))
  | [] => rfl
  | a :: r => by
    show (intsOf (r.map nI)).map (fun l => (a : Int) :: l) = _
    rw [ints_nI r] <;> rfl
theorem count_cast (j : Nat) : ∀ l : List Nat, (l.map fun (j : Nat) => (j : Int)).count (j : Int) = l.count j
  | [] => rfl
  | a :: r => by
    rw [List.map_cons, List.count_cons, List.count_cons, count_cast j r]
    congr 1
    by_cases e : a = j
    · subst e; simp
    · have : ¬ ((a : Int) = (j : Int)) := by omega
      simp [e, this]
theorem rise_nat {n : Nat} {l : List Nat} (h : ∀ j ∈ l, j < n) : riseOf (l.map fun (j : Nat) => (j : Int)) = ((List.range n).filter fun j => decide (j ∈ l)).map fun (j : Nat) => (j : Int) := by
  refine rise_unique (pw_riseOf _) ?_ fun k => ?_
  · rw [List.pairwise_map]
    refine List.Pairwise.imp ?_ (List.Pairwise.filter _ List.pairwise_lt_range)
    intro a b hab
    omega
  · rw [mem_riseOf, List.mem_map, List.mem_map]
    constructor
    · rintro ⟨j, hj, rfl⟩
      exact ⟨j, List.mem_filter.mpr ⟨List.mem_range.mpr (h j hj), decide_eq_true hj⟩, rfl⟩
    · rintro ⟨j, hj, rfl⟩
      exact ⟨j, of_decide_eq_true (List.mem_filter.mp hj).2, rfl⟩
def encOpt : Option Nat → D
  | none => .non
  | some j => nI j
theorem f_often {l : List Nat} {n mv : Nat} (h : ∀ j ∈ l, j < n) (hn : n ≤ 60) (hl : l.length ≤ 1000) : F_seen_often [.l (l.map nI), .d (nI mv)] = some (.d (encOpt (oft n l mv))) := by
  have hr := rise_nat h
  have hrl : (riseOf (l.map fun (j : Nat) => (j : Int))).length ≤ n := by
    rw [hr, List.length_map]
    have := List.length_filter_le (fun j => decide (j ∈ l)) (List.range n)
    rw [List.length_range] at this
    exact this
  let E : List Vl := [.l (l.map nI), .d (nI mv), .un, .un]
  have e1 : sLst (eSortSet (aCons (eVar 0) aNil)) E = some ((((List.range n).filter fun j => decide (j ∈ l))).map nI) := by
    unfold sLst eSortSet
    rw [eB1_ok (show eVar 0 E = some (.l (l.map nI)) from rfl)]
    unfold gSortSet
    rw [show lstOf (.l (l.map nI)) = some (l.map nI) from rfl, Option.bind_some, ints_nI, Option.bind_some, if_pos ⟨by rw [List.length_map]; exact hl, by omega⟩, hr, List.map_map]
    rfl
  have e2 : eLc (sLst (eSortSet (aCons (eVar 0) aNil))) (gN 3) (cGe (eCount (eVar 0) (eVar 3)) (eVar 1)) (eVar 3) [3] E = some (.o ((((List.range n).filter fun j => decide (j ∈ l)).filter fun j => decide (mv ≤ l.count j)).map nI)) := by
    refine lc_all nI (fun j => decide (mv ≤ l.count j)) nI e1 (by have := List.length_filter_le (fun j => decide (j ∈ l)) (List.range n); rw [List.length_range] at this; omega) fun j hj => ⟨_, rfl, ?_, fun _ => rfl⟩
    rw [cGe_ok (i := ((l.count j : Nat) : Int)) (j := (mv : Int)) ?_ rfl]
    · congr 1
      exact decide_eq_decide.mpr (by omega)
    · unfold eCount
      rw [e2_ok (show eVar 0 _ = some (.l (l.map nI)) from rfl) (show eVar 3 _ = some (.d (nI j)) from rfl)]
      unfold gCount
      rw [show lstOf (.l (l.map nI)) = some (l.map nI) from rfl, Option.bind_some, ints_nI, Option.bind_some, show intOf (.d (nI j)) = some (j : Int) from rfl]
      show some (Vl.d (.int (((l.map fun (j : Nat) => (j : Int)).count (j : Int) : Nat) : Int))) = _
      rw [count_cast]
  rw [List.filter_filter] at e2
  have eo : oft n l mv = ((List.range n).filter fun j => decide (mv ≤ l.count j) && decide (j ∈ l)).head? := by
    unfold oft
    rw [List.head?_filter]
    congr 1
    funext j
    exact Bool.and_comm _ _
  rw [eo]
  generalize (List.range n).filter (fun j => decide (mv ≤ l.count j) && decide (j ∈ l)) = o at e2
  refine fnD_rt rfl (sSeq_nx (sAsg_o e2) ?_)
  cases o with
  | nil => exact sSeq_rt (sIf_t rfl (sRet_d rfl))
  | cons j r =>
    refine sSeq_nx (sIf_f ?_ sNil_nx) (sRet_d (eIx_at (j := 0) rfl rfl rfl rfl))
    rw [cEq_int (a := (((j :: r).map nI).length : Int)) (b := 0) (eLen_ok rfl rfl) rfl, decide_eq_false]
    rw [List.length_map, List.length_cons]
    omega

/-! ### all_moved -/
theorem cut_take {xs : List D} {a n j : Nat} (h : j < n) : ((xs.drop a).take n)[j]? = xs[a + j]? := by
  rw [List.getElem?_take_of_lt h, List.getElem?_drop]
theorem num_at {k : Kd} (hk : (∃ t, k = .twice t) ∨ ∃ t m, k = .handed t m) (c : C) : ∃ l, encC k c = .tup l ∧ l[1]? = some (.int c.num) := by
  rcases hk with ⟨t, rfl⟩ | ⟨t, m, rfl⟩
  · exact ⟨_, rfl, rfl⟩
  · exact ⟨_, rfl, rfl⟩
theorem val_at {k : Kd} (hk : k ≠ .once) (c : C) : ∃ l, encC k c = .tup l ∧ l[0]? = some (.int c.val) := by
  cases k with
  | once => exact absurd rfl hk
  | twice t => exact ⟨_, rfl, rfl⟩
  | handed t m => exact ⟨_, rfl, rfl⟩
  | signs a b c => exact ⟨_, rfl, rfl⟩
theorem f_diff {k : Kd} (hk : (∃ t, k = .twice t) ∨ ∃ t m, k = .handed t m) {rs : List Rd} {n p q : Nat} (hn : n ≤ 1000) (hp : ∀ j, j < n → isC rs (p + j)) (hq : ∀ j, j < n → isC rs (q + j)) :
    F_changed_at [.d (.tup (((rs.map (encRd k)).drop p).take n)), .d (.tup (((rs.map (encRd k)).drop q).take n)), .d (.int 1)] = some (.o ((diffNum n rs p q).map nI)) := by
  have hlen : (((rs.map (encRd k)).drop p).take n).length = n := by
    rw [List.length_take, List.length_drop, List.length_map]
    by_cases h0 : n = 0
    · omega
    · have := (hp (n - 1) (by omega)).lt
      omega
  refine f_changed hlen hn (fun j => (at_ rs (p + j)).num) (fun j => (at_ rs (q + j)).num) (fun j hj => ?_) fun j hj => ?_
  · obtain ⟨l, e1, e2⟩ := num_at hk (at_ rs (p + j))
    exact ⟨l, by rw [cut_take hj, (hp j hj).enc k, e1], e2⟩
  · obtain ⟨l, e1, e2⟩ := num_at hk (at_ rs (q + j))
    exact ⟨l, by rw [cut_take hj, (hq j hj).enc k, e1], e2⟩
theorem stepN_mul {n m : Nat} (hn : 1 ≤ n) (hm : 2 ≤ m) : stepN (m * n - 2 * n + 1) n = m - 1 := by
  unfold stepN
  rw [if_pos (by omega), Nat.add_sub_cancel, ← Nat.sub_mul, Nat.mul_div_cancel _ (by omega)]
  omega
theorem flat_succ {α : Type} (f : Nat → List α) (i : Nat) : (List.range (i + 1)).flatMap f = (List.range i).flatMap f ++ f i := by
  rw [List.range_succ, List.flatMap_append]
  simp
theorem sExt_ok {fs : List Vl → Option (List Vl)} {env : List Vl} {i : Nat} {xs ys : List D} {v : Vl} (h0 : env[i]? = some (.o xs)) (h1 : fs env = some [v]) (h2 : lstOf v = some ys) (h3 : xs.length + ys.length ≤ 1000) : sExt i fs env = some (.nx (env.set i (.o (xs ++ ys)))) := by
  unfold sExt
  rw [h0]
  show (fs env).bind _ = _
  rw [h1, Option.bind_some]
  show (lstOf v).bind _ = _
  rw [h2, Option.bind_some, if_pos h3]
theorem flat_len {α : Type} (f : Nat → List α) {n : Nat} (h : ∀ i, (f i).length ≤ n) : ∀ i, ((List.range i).flatMap f).length ≤ i * n
  | 0 => by simp
  | i + 1 => by
    rw [flat_succ, List.length_append, Nat.succ_mul]
    have := flat_len f h i
    have := h i
    omega
theorem diff_len {n : Nat} {rs : List Rd} {p q : Nat} : (diffNum n rs p q).length ≤ n := by
  unfold diffNum
  have := List.length_filter_le (fun j => (at_ rs (p + j)).num != (at_ rs (q + j)).num) (List.range n)
  rw [List.length_range] at this
  exact this
def amSrc : List Vl → Option (List D) := sRng3 (aCons (eD (.int 0)) (aCons (eAdd (eSub (eB1 gLen (aCons (eVar 1) aNil)) (eMul (eD (.int 2)) (eVar 0))) (eD (.int 1))) (aCons (eVar 0) aNil)))
def amBody : List Vl → Option Out := sSeq (sAsg 4 (eSl (eVar 1) (oSome (eVar 3)) (oSome (eAdd (eVar 3) (eVar 0))))) (sSeq (sAsg 5 (eSl (eVar 1) (oSome (eAdd (eVar 3) (eVar 0))) (oSome (eAdd (eVar 3) (eMul (eD (.int 2)) (eVar 0)))))) (sExt 2 (aCons (eCall 3 F_changed_at (aCons (eVar 4) (aCons (eVar 5) (aCons (eD (.int 1)) aNil)))) aNil)))
theorem f_allmoved {k : Kd} (hk : (∃ t, k = .twice t) ∨ ∃ t m, k = .handed t m) {rs : List Rd} {n : Nat} (hn : 1 ≤ n) (hn2 : n ≤ 60) (hc : allC rs) (hm : rs.length % n = 0) (h2 : 2 * n ≤ rs.length) (hl : rs.length ≤ 900) :
    F_all_moved [.d (nI n), .d (encRds k rs)] = some (.o ((movedH n rs).map nI)) := by
  obtain ⟨m, hme⟩ : ∃ m, rs.length = m * n := ⟨rs.length / n, by rw [Nat.div_mul_cancel (Nat.dvd_of_mod_eq_zero hm)]⟩
  have hm2 : 2 ≤ m := by
    rcases Nat.lt_or_ge m 2 with h | h
    · exfalso
      have : m * n ≤ 1 * n := Nat.mul_le_mul_right n (by omega)
      omega
    · exact h
  have hdiv : rs.length / n = m := by rw [hme, Nat.mul_div_cancel _ (by omega)]
  have hb : rs.length - 2 * n + 1 ≤ 1000 := by omega
  let E : List Vl := [.d (nI n), .d (encRds k rs), .o [], .un, .un, .un]
  have hlen : (rs.map (encRd k)).length = rs.length := List.length_map _
  have e1 : amSrc E = some ((List.range (m - 1)).map fun (i : Nat) => nI (i * n)) := by
    unfold amSrc
    rw [sRng3_at (b := rs.length - 2 * n + 1) (c := n) hn (by omega) hb rfl (eAdd_ok (i := rs.length - 2 * n) (j := 1) (eSub_ok (i := rs.length) (j := 2 * n) (by rw [eLen_ok (xs := rs.map (encRd k)) rfl rfl, hlen] <;> rfl) (eMulN_ok (i := 2) (j := n) rfl rfl (by omega)) h2) rfl) rfl, hme, stepN_mul hn hm2]
  have e2 := forM_inv (gd := gN 3) (body := amBody)
    (fun i env => ∃ a b c, env = [.d (nI n), .d (encRds k rs), .o (((List.range i).flatMap fun a => diffNum n rs (a * n) ((a + 1) * n)).map nI), a, b, c]) ((List.range (m - 1)).map fun (i : Nat) => nI (i * n)) 0 E ⟨_, _, _, rfl⟩ ?_
  · obtain ⟨e', h1, a, b, c, rfl⟩ := e2
    rw [Nat.zero_add, List.length_map, List.length_range] at h1
    have e3 : sFor amSrc (gN 3) amBody E = forM (gN 3) amBody ((List.range (m - 1)).map fun (i : Nat) => nI (i * n)) E := by
      unfold sFor
      rw [e1, Option.bind_some]
    refine fnD_rt rfl (sSeq_nx (sAsg_o rfl) (sSeq_nx (e3.trans h1) ?_))
    unfold movedH
    rw [hdiv]
    exact sRet_u rfl
  · rintro j d env hj ⟨a, b, c, rfl⟩
    rw [Nat.zero_add]
    have hjm : j < m - 1 := by
      have := (List.getElem?_eq_some_iff.mp hj).1
      simpa using this
    rw [List.getElem?_map, List.getElem?_range hjm] at hj
    cases hj
    have hjn : (j + 2) * n ≤ rs.length := by rw [hme]; exact Nat.mul_le_mul_right n (by omega)
    have hx : (rs.map (encRd k)).length = rs.length := List.length_map _
    have e4 : (j + 1) * n = j * n + n := Nat.succ_mul j n
    have e5 : (j + 2) * n = j * n + 2 * n := Nat.add_mul j 2 n
    refine ⟨_, _, rfl, sSeq_nx (sAsg_d (eSl_ok (xs := rs.map (encRd k)) rfl (oSome_ok (i := ((j * n : Nat) : Int)) rfl) (oSome_ok (i := ((j * n + n : Nat) : Int)) (eAdd_ok (i := j * n) (j := n) rfl rfl)))) (sSeq_nx (sAsg_d (eSl_ok (xs := rs.map (encRd k)) rfl (oSome_ok (i := ((j * n + n : Nat) : Int)) (eAdd_ok (i := j * n) (j := n) rfl rfl)) (oSome_ok (i := ((j * n + 2 * n : Nat) : Int)) (eAdd_ok (i := j * n) (j := 2 * n) rfl (eMulN_ok (i := 2) (j := n) rfl rfl (by omega)))))) (sExt_ok (xs := ((List.range j).flatMap fun a => diffNum n rs (a * n) ((a + 1) * n)).map nI) (ys := (diffNum n rs (j * n) ((j + 1) * n)).map nI) rfl (aCons_ok (eCall_ok (v := .o ((diffNum n rs (j * n) ((j + 1) * n)).map nI)) rfl ?_) rfl) rfl ?_)), ?_⟩
    · have q := f_diff hk (rs := rs) (n := n) (p := j * n) (q := (j + 1) * n) (by omega) (fun i hi => hc _ (by omega)) (fun i hi => hc _ (by omega))
      rw [cut_nn (by omega) (by omega), cut_nn (by omega) (by omega)]
      rw [show j * n + n - j * n = n by omega, show j * n + 2 * n - (j * n + n) = n by omega, ← e4]
      exact q
    · rw [List.length_map, List.length_map]
      have h3 := flat_len (fun a => diffNum n rs (a * n) ((a + 1) * n)) (n := n) (fun i => diff_len) j
      have h4 : (diffNum n rs (j * n) ((j + 1) * n)).length ≤ n := diff_len
      omega
    · rw [flat_succ, List.map_append]
      exact ⟨_, _, _, rfl⟩
end K98

/-! ## Spec3 -/
/-! Looks and puts: once, twice, handed (3). -/
namespace K98
open PySem PySem.Spec PyProof.Rows L2
theorem sUnp_ok {is : List Nat} {fa : List Vl → Option Vl} {env : List Vl} {v : Vl} {xs : List D} (h : fa env = some v) (h2 : anyTup v = some xs) (h3 : xs.length = is.length) : sUnp is fa env = some (.nx (setAll is xs env)) := by
  unfold sUnp; rw [h, Option.bind_some, h2, Option.bind_some, if_pos h3]
theorem full_ok {li ni : Nat} {env : List Vl} {xs : List D} {n : Nat} (h1 : eVar li env = some (.d (.tup xs))) (h2 : eVar ni env = some (.d (nI n))) (hn : 1 ≤ n) :
    cAnd (cEq (eMod (eB1 gLen (aCons (eVar li) aNil)) (eVar ni)) (eD (.int 0))) (cGe (eB1 gLen (aCons (eVar li) aNil)) (eMul (eD (.int 2)) (eVar ni))) env = some (decide (xs.length % n = 0 ∧ 2 * n ≤ xs.length)) := by
  have a1 : cEq (eMod (eB1 gLen (aCons (eVar li) aNil)) (eVar ni)) (eD (.int 0)) env = some (decide (xs.length % n = 0)) := by
    rw [cEq_int (eMod_ok (i := xs.length) (j := n) (eLen_ok h1 rfl) h2 (by omega)) rfl]
    exact congrArg some (decide_eq_decide.mpr (by omega))
  have a2 : cGe (eB1 gLen (aCons (eVar li) aNil)) (eMul (eD (.int 2)) (eVar ni)) env = some (decide (2 * n ≤ xs.length)) := by
    rw [cGe_ok (eLen_ok (xs := xs) h1 rfl) (eMulN_ok (i := 2) (j := n) rfl h2 (by omega))]
    exact congrArg some (decide_eq_decide.mpr (by omega))
  by_cases h : xs.length % n = 0
  · rw [cAnd_t (a1.trans (congrArg some (decide_eq_true h))) a2]
    exact congrArg some (decide_eq_decide.mpr (by omega))
  · rw [cAnd_f (a1.trans (congrArg some (decide_eq_false h)))]
    exact congrArg some (decide_eq_false (by omega)).symm
def vals1 (d : D) : Int := match d with
  | .tup (.int v :: _) => v
  | _ => 0
theorem vals1_enc {k : Kd} (hk : k ≠ .once) (c : C) : vals1 (encC k c) = c.val := by
  cases k with
  | once => exact absurd rfl hk
  | twice t => rfl
  | handed t m => rfl
  | signs a b c => rfl
theorem drop_enc {k : Kd} {rs : List Rd} {p n : Nat} (hl : p + n = rs.length) (hc : ∀ j, j < n → isC rs (p + j)) : (rs.map (encRd k)).drop p = (List.range n).map fun j => encC k (at_ rs (p + j)) := by
  apply List.ext_getElem?
  intro j
  rw [List.getElem?_drop, List.getElem?_map (f := fun j => encC k (at_ rs (p + j)))]
  by_cases hj : j < n
  · rw [(hc j hj).enc k, List.getElem?_range hj] <;> rfl
  · rw [List.getElem?_eq_none (by rw [List.length_map]; omega), List.getElem?_eq_none (by rw [List.length_range]; omega)] <;> rfl
theorem f_vals {k : Kd} (hk : k ≠ .once) {rs : List Rd} {p n : Nat} (hn : n ≤ 1000) (hl : p + n = rs.length) (hc : ∀ j, j < n → isC rs (p + j)) : F_values_of [.d (.tup ((rs.map (encRd k)).drop p))] = some (.d (tInts (valsAt n rs p))) := by
  rw [drop_enc hl hc, f_values (by rw [List.length_map, List.length_range]; exact hn) vals1 fun d hd => ?_, List.map_map]
  · unfold valsAt
    congr 4
    funext j
    exact vals1_enc hk _
  · obtain ⟨j, hj, rfl⟩ := List.mem_map.mp hd
    obtain ⟨l, e1, e2⟩ := val_at hk (at_ rs (p + j))
    exact ⟨l, e1, by rw [vals1_enc hk]; exact e2⟩
theorem take_last {xs : List D} {n : Nat} (h : n ≤ xs.length) : (xs.drop (xs.length - n)).take n = xs.drop (xs.length - n) := List.take_of_length_le (by rw [List.length_drop]; omega)

theorem eLen_rds {k : Kd} {rs : List Rd} {li : Nat} {e : List Vl} (h : eVar li e = some (.d (encRds k rs))) : eB1 gLen (aCons (eVar li) aNil) e = some (.d (nI rs.length)) := by
  have q := eLen_ok (xs := rs.map (encRd k)) h rfl
  rw [List.length_map] at q
  exact q
theorem own_mod {k : Kd} {rs : List Rd} {li ni n h : Nat} {e : List Vl} (h1 : eVar li e = some (.d (encRds k rs))) (h2 : eVar ni e = some (.d (nI n))) (hn : 1 ≤ n) :
    eCall 1 F_own_read (aCons (eMod (eB1 gLen (aCons (eVar li) aNil)) (eVar ni)) aNil) e = some (.d (encStp k h (.rdO (rs.length % n)))) :=
  eCall_ok (n := 1) (F := F_own_read) (env := e) (aCons_ok (eMod_ok (i := rs.length) (j := n) (eLen_rds h1) h2 (by omega)) (show aNil e = some [] from rfl)) (f_own_read (rs.length % n))
theorem f_look_twice {t n h : Nat} {rs : List Rd} (hn : 1 ≤ n) (hn2 : n ≤ 60) (hc : allC rs) (hl : rs.length ≤ 900) : F_look_twice [.d (nI n), .d (encRds (.twice t) rs)] = some (.d (encStp (.twice t) h (lookTwice n rs))) := by
  have hx : (rs.map (encRd (.twice t))).length = rs.length := List.length_map _
  have fu := full_ok (li := 1) (ni := 0) (env := [.d (nI n), .d (encRds (.twice t) rs), .un, .un]) (xs := rs.map (encRd (.twice t))) (n := n) rfl rfl hn
  rw [hx] at fu
  unfold lookTwice
  by_cases h1 : rs.length % n = 0 ∧ 2 * n ≤ rs.length
  · have fl := f_last (xs := rs.map (encRd (.twice t))) (n := n) hn (by omega) (by omega)
    rw [hx] at fl
    have hd := f_diff (.inl ⟨t, rfl⟩) (rs := rs) (n := n) (p := rs.length - 2 * n) (q := rs.length - n) (by omega) (fun j hj => hc _ (by omega)) (fun j hj => hc _ (by omega))
    have htl := take_last (xs := rs.map (encRd (.twice t))) (n := n) (by omega)
    rw [hx] at htl
    rw [htl] at hd
    have un := sUnp_ok (is := [2, 3]) (env := [.d (nI n), .d (encRds (.twice t) rs), .un, .un]) (eCall_ok (n := 2) (F := F_last_collects) (fs := aCons (eVar 1) (aCons (eVar 0) aNil)) rfl fl) rfl rfl
    by_cases h2 : diffNum n rs (rs.length - 2 * n) (rs.length - n) = []
    · rw [if_pos ⟨h1.1, h1.2, h2⟩]
      have fv := f_vals (k := .twice t) (by intro z; cases z) (rs := rs) (p := rs.length - n) (n := n) (by omega) (by omega) (fun j hj => hc _ (by omega))
      refine fnD_rt rfl (sSeq_rt (sIf_t (fu.trans (congrArg some (decide_eq_true h1))) (sSeq_nx un (sIf_t ?_ (sRet_d (eTup_ok (aCons_ok rfl (aCons_ok (eCall_ok rfl fv) rfl)) rfl (by simp)))))))
      refine (cEq_nil (ns := diffNum n rs (rs.length - 2 * n) (rs.length - n)) ?_).trans (congrArg some (decide_eq_true h2))
      exact eCall_ok (v := .o ((diffNum n rs (rs.length - 2 * n) (rs.length - n)).map nI)) (vals := [.d (.tup (((rs.map (encRd (.twice t))).drop (rs.length - 2 * n)).take n)), .d (.tup ((rs.map (encRd (.twice t))).drop (rs.length - n))), .d (.int 1)]) rfl hd
    · rw [if_neg (fun z => h2 z.2.2)]
      refine fnD_rt rfl (sSeq_nx (sIf_t (fu.trans (congrArg some (decide_eq_true h1))) (sSeq_nx un (sIf_f ?_ sNil_nx))) (sRet_d (own_mod (k := .twice t) (rs := rs) (n := n) (h := h) (by rfl) (by rfl) hn)))
      refine (cEq_nil (ns := diffNum n rs (rs.length - 2 * n) (rs.length - n)) ?_).trans (congrArg some (decide_eq_false h2))
      exact eCall_ok (v := .o ((diffNum n rs (rs.length - 2 * n) (rs.length - n)).map nI)) (vals := [.d (.tup (((rs.map (encRd (.twice t))).drop (rs.length - 2 * n)).take n)), .d (.tup ((rs.map (encRd (.twice t))).drop (rs.length - n))), .d (.int 1)]) rfl hd
  · rw [if_neg (fun z => h1 ⟨z.1, z.2.1⟩)]
    exact fnD_rt rfl (sSeq_nx (sIf_f (fu.trans (congrArg some (decide_eq_false h1))) sNil_nx) (sRet_d (own_mod (k := .twice t) (rs := rs) (n := n) (h := h) (by rfl) (by rfl) hn)))
end K98

/-! ## Spec4 -/
/-! Looks and puts: once, twice, handed (4). -/
namespace K98
open PySem PySem.Spec PyProof.Rows L2
theorem aNil_ok {env : List Vl} : aNil env = some [] := rfl
theorem mem_diff {n : Nat} {rs : List Rd} {p q j : Nat} (h : j ∈ diffNum n rs p q) : j < n := List.mem_range.mp (List.mem_filter.mp h).1
theorem mem_movedH {n : Nat} {rs : List Rd} {j : Nat} (h : j ∈ movedH n rs) : j < n := by
  obtain ⟨a, _, h⟩ := List.mem_flatMap.mp h
  exact mem_diff h
theorem oft_lt {n : Nat} {l : List Nat} {mv j : Nat} (h : oft n l mv = some j) : j < n := List.mem_range.mp (List.mem_of_find?_eq_some h)
theorem drop_at {k : Kd} {rs : List Rd} {p j : Nat} (h : isC rs (p + j)) : ((rs.map (encRd k)).drop p)[j]? = some (encC k (at_ rs (p + j))) := by
  rw [List.getElem?_drop]
  exact h.enc k
theorem f_look_handed {t m n mv h : Nat} {rs : List Rd} (hn : 1 ≤ n) (hn2 : n ≤ 60) (hc : allC rs) (hl : rs.length ≤ 900) : F_look_handed [.d (nI n), .d (nI mv), .d (encRds (.handed t m) rs)] = some (.d (encStp (.handed t m) h (lookHanded n mv rs))) := by
  have hx : (rs.map (encRd (.handed t m))).length = rs.length := List.length_map _
  have fu := full_ok (li := 2) (ni := 0) (env := [.d (nI n), .d (nI mv), .d (encRds (.handed t m) rs), .un, .un, .un]) (xs := rs.map (encRd (.handed t m))) (n := n) rfl rfl hn
  rw [hx] at fu
  unfold lookHanded
  by_cases h1 : rs.length % n = 0 ∧ 2 * n ≤ rs.length
  · rw [if_pos h1]
    have fl := f_last (xs := rs.map (encRd (.handed t m))) (n := n) hn (by omega) (by omega)
    rw [hx] at fl
    have hd := f_diff (.inr ⟨t, m, rfl⟩) (rs := rs) (n := n) (p := rs.length - 2 * n) (q := rs.length - n) (by omega) (fun j hj => hc _ (by omega)) (fun j hj => hc _ (by omega))
    have htl := take_last (xs := rs.map (encRd (.handed t m))) (n := n) (by omega)
    rw [hx] at htl
    rw [htl] at hd
    have un := sUnp_ok (is := [3, 4]) (env := [.d (nI n), .d (nI mv), .d (encRds (.handed t m) rs), .un, .un, .un]) (eCall_ok (n := 2) (F := F_last_collects) (fs := aCons (eVar 2) (aCons (eVar 0) aNil)) rfl fl) rfl rfl
    by_cases h2 : diffNum n rs (rs.length - 2 * n) (rs.length - n) = []
    · rw [if_pos h2]
      have fv := f_vals (k := .handed t m) (by intro z; cases z) (rs := rs) (p := rs.length - n) (n := n) (by omega) (by omega) (fun j hj => hc _ (by omega))
      refine fnD_rt rfl (sSeq_rt (sIf_t (fu.trans (congrArg some (decide_eq_true h1))) (sSeq_nx un (sSeq_rt (sIf_t ?_ (sRet_d (eTup_ok (aCons_ok rfl (aCons_ok (eCall_ok rfl fv) rfl)) rfl (by simp))))))))
      refine (cEq_nil (ns := diffNum n rs (rs.length - 2 * n) (rs.length - n)) ?_).trans (congrArg some (decide_eq_true h2))
      exact eCall_ok (v := .o ((diffNum n rs (rs.length - 2 * n) (rs.length - n)).map nI)) (vals := [.d (.tup (((rs.map (encRd (.handed t m))).drop (rs.length - 2 * n)).take n)), .d (.tup ((rs.map (encRd (.handed t m))).drop (rs.length - n))), .d (.int 1)]) rfl hd
    · rw [if_neg h2]
      have ne : cEq (eCall 3 F_changed_at (aCons (eVar 3) (aCons (eVar 4) (aCons (eD (.int 1)) aNil)))) (eLst aNil) (setAll [3, 4] [.tup (((rs.map (encRd (.handed t m))).drop (rs.length - 2 * n)).take n), .tup ((rs.map (encRd (.handed t m))).drop (rs.length - n))] [.d (nI n), .d (nI mv), .d (encRds (.handed t m) rs), .un, .un, .un]) = some false := by
        refine (cEq_nil (ns := diffNum n rs (rs.length - 2 * n) (rs.length - n)) ?_).trans (congrArg some (decide_eq_false h2))
        exact eCall_ok (v := .o ((diffNum n rs (rs.length - 2 * n) (rs.length - n)).map nI)) (vals := [.d (.tup (((rs.map (encRd (.handed t m))).drop (rs.length - 2 * n)).take n)), .d (.tup ((rs.map (encRd (.handed t m))).drop (rs.length - n))), .d (.int 1)]) rfl hd
      have ml : (movedH n rs).length ≤ 1000 := by
        have q := flat_len (fun a => diffNum n rs (a * n) ((a + 1) * n)) (n := n) (fun i => diff_len) (rs.length / n - 1)
        have q2 : (rs.length / n - 1) * n ≤ rs.length / n * n := Nat.mul_le_mul_right n (Nat.sub_le _ _)
        have q3 := Nat.div_mul_le_self rs.length n
        exact Nat.le_trans q (Nat.le_trans q2 (Nat.le_trans q3 (by omega)))
      have fo := f_often (l := movedH n rs) (n := n) (mv := mv) (fun j hj => mem_movedH hj) hn2 ml
      have fa := f_allmoved (.inr ⟨t, m, rfl⟩) (rs := rs) hn hn2 hc h1.1 h1.2 hl
      have as := sAsg_d (i := 5) (env := setAll [3, 4] [.tup (((rs.map (encRd (.handed t m))).drop (rs.length - 2 * n)).take n), .tup ((rs.map (encRd (.handed t m))).drop (rs.length - n))] [.d (nI n), .d (nI mv), .d (encRds (.handed t m) rs), .un, .un, .un]) (fa := eCall 2 F_seen_often (aCons (eCall 2 F_all_moved (aCons (eVar 0) (aCons (eVar 2) aNil))) (aCons (eVar 1) aNil))) (eCall_ok (v := .d (encOpt (oft n (movedH n rs) mv))) (vals := [.o ((movedH n rs).map nI), .d (nI mv)]) (aCons_ok (eCall_ok (v := .o ((movedH n rs).map nI)) (vals := [.d (nI n), .d (encRds (.handed t m) rs)]) rfl fa) rfl) fo)
      cases ho : oft n (movedH n rs) mv with
      | none =>
        rw [ho] at as
        exact fnD_rt rfl (sSeq_nx (sIf_t (fu.trans (congrArg some (decide_eq_true h1))) (sSeq_nx un (sSeq_nx (sIf_f ne sNil_nx) (sSeq_nx as (sIf_f rfl sNil_nx))))) (sRet_d (own_mod (k := .handed t m) (rs := rs) (n := n) (h := h) (by rfl) (by rfl) hn)))
      | some j =>
        rw [ho] at as
        have hj := oft_lt ho
        refine fnD_rt rfl (sSeq_rt (sIf_t (fu.trans (congrArg some (decide_eq_true h1))) (sSeq_nx un (sSeq_nx (sIf_f ne sNil_nx) (sSeq_nx as (sIf_t rfl (sRet_d (eTup_ok (aCons_ok rfl (aCons_ok (eIx_at (j := 2) (eIx_at (j := j) (x := encC (.handed t m) (at_ rs (rs.length - n + j))) rfl rfl rfl ?_) rfl rfl rfl) rfl)) rfl (by simp)))))))))
        exact drop_at (hc _ (by omega))
  · rw [if_neg h1]
    exact fnD_rt rfl (sSeq_nx (sIf_f (fu.trans (congrArg some (decide_eq_false h1))) sNil_nx) (sRet_d (own_mod (k := .handed t m) (rs := rs) (n := n) (h := h) (by rfl) (by rfl) hn)))

/-! ### next_once, next_twice, next_handed -/
def encMan' (n : Nat) (k : Kd) : D := encMan ⟨n, k⟩
theorem once_row {rs : List Rd} (hc : allC rs) : rs.map (encRd .once) = (valsAt rs.length rs 0).map D.int := by
  apply List.ext_getElem?
  intro j
  unfold valsAt
  rw [List.map_map]
  by_cases hj : j < rs.length
  · rw [(hc j hj).enc .once, List.getElem?_map, List.getElem?_range hj]
    show some (D.int (at_ rs j).val) = some (D.int (at_ rs (0 + j)).val)
    rw [Nat.zero_add]
  · rw [List.getElem?_eq_none (by rw [List.length_map]; omega), List.getElem?_eq_none (by rw [List.length_map, List.length_range]; omega)]
theorem cEq_s {fa fb : List Vl → Option Vl} {env : List Vl} {a b : PySem.Str} (k : Bool) (h1 : fa env = some (.d (.str a))) (h2 : fb env = some (.d (.str b))) (hk : (SeqAt.shaped (.str a) && SeqAt.shaped (.str b) && ((a == b) == k)) = true := by decide +kernel) : cEq fa fb env = some k := by
  rw [Bool.and_eq_true, Bool.and_eq_true] at hk
  unfold cEq
  rw [t2_ok h1 h2]
  unfold gEq
  rw [show deepOf (.d (.str a)) = some (.str a) from rfl, show deepOf (.d (.str b)) = some (.str b) from rfl, Option.bind_some, Option.bind_some, if_pos hk.1]
  show some (a == b) = some k
  rw [eq_of_beq hk.2]
theorem cNe_s {fa fb : List Vl → Option Vl} {env : List Vl} {a b : PySem.Str} (k : Bool) (h1 : fa env = some (.d (.str a))) (h2 : fb env = some (.d (.str b))) (hk : (SeqAt.shaped (.str a) && SeqAt.shaped (.str b) && ((a == b) == !k)) = true := by decide +kernel) : cNe fa fb env = some k := by
  rw [Bool.and_eq_true, Bool.and_eq_true] at hk
  unfold cNe
  rw [t2_ok h1 h2]
  unfold gNe
  rw [show deepOf (.d (.str a)) = some (.str a) from rfl, show deepOf (.d (.str b)) = some (.str b) from rfl, Option.bind_some, Option.bind_some, if_pos hk.1]
  show some (!(a == b)) = some k
  rw [eq_of_beq hk.2, Bool.not_not]
theorem f_next_once_look {n h : Nat} {rs : List Rd} (hc : allC rs) (hl : rs.length ≤ n) : F_next_once [.d (encMan' n .once), .d (nI h), .d (encDeed h .look), .d (encRds .once rs)] = some (.d (encStp .once h (lookOnce n rs))) := by
  have lt : cLt (eB1 gLen (aCons (eVar 3) aNil)) (eIx (eVar 0) (eD (.int 1))) [.d (encMan' n .once), .d (nI h), .d (encDeed h .look), .d (encRds .once rs)] = some (decide (rs.length < n)) := by
    rw [cLt_ok (eLen_rds (k := .once) (rs := rs) rfl) (j := (n : Int)) rfl]
    exact congrArg some (decide_eq_decide.mpr (by omega))
  have np : cEq (eIx (eVar 2) (eD (.int 0))) (eD (.str "put")) [.d (encMan' n .once), .d (nI h), .d (encDeed h .look), .d (encRds .once rs)] = some false := cEq_s (a := "look") (b := "put") false rfl rfl
  unfold lookOnce
  by_cases h1 : rs.length < n
  · rw [if_pos h1]
    refine fnD_rt rfl (sSeq_nx (sIf_f np sNil_nx) (sSeq_rt (sIf_t (lt.trans (congrArg some (decide_eq_true h1))) (sRet_d (eCall_ok (n := 1) (F := F_own_read) (vals := [.d (nI rs.length)]) (aCons_ok (eLen_rds (k := .once) (rs := rs) rfl) aNil_ok) (f_own_read rs.length))))))
  · rw [if_neg h1]
    refine fnD_rt rfl (sSeq_nx (sIf_f np sNil_nx) (sSeq_nx (sIf_f (lt.trans (congrArg some (decide_eq_false h1))) sNil_nx) (sRet_d ?_)))
    have e : encRds .once rs = tInts (valsAt n rs 0) := by
      unfold encRds tInts
      rw [once_row hc, show rs.length = n by omega]
    rw [e]
    rfl
theorem f_next_once_put {n h : Nat} {v : Int} {many : Nat} : F_next_once [.d (encMan' n .once), .d (nI h), .d (encDeed h (.put v)), .d (encRds .once [])] = some (.d (encStp .once h (putOf .once n h v many []))) :=
  fnD_rt rfl (sSeq_rt (sIf_t (cEq_s (a := "put") (b := "put") true rfl rfl) (sSeq_rt (sIf_t rfl (sRet_d rfl)))))
theorem f_next_once_put1 {n h : Nat} {v : Int} : F_next_once [.d (encMan' n .once), .d (nI h), .d (encDeed h (.put v)), .d (encRds .once [.n])] = some (.d (encStp .once h .fin)) :=
  fnD_rt rfl (sSeq_rt (sIf_t (cEq_s (a := "put") (b := "put") true rfl rfl) (sSeq_nx (sIf_f rfl sNil_nx) (sRet_d rfl))))

/-- a step of the deed that is under way -/
def aheadD (n h many : Nat) (l : List D) : Prop := l[h]? = some (nI many)
theorem f_next_twice_look {t n h : Nat} {rs : List Rd} {ah : List D} (hn : 1 ≤ n) (hn2 : n ≤ 60) (hc : allC rs) (hl : rs.length ≤ 900) : F_next_twice [.d (encMan' n (.twice t)), .d (nI h), .d (encDeed h .look), .d (.tup ah), .d (encRds (.twice t) rs)] = some (.d (encStp (.twice t) h (lookTwice n rs))) := by
  refine fnD_rt rfl (sSeq_nx (sUnp_ok rfl rfl rfl) (sSeq_rt (sIf_t (cEq_s (a := "look") (b := "look") true rfl rfl) (sRet_d (eCall_ok (n := 2) (F := F_look_twice) (vals := [.d (nI n), .d (encRds (.twice t) rs)]) rfl (f_look_twice hn hn2 hc hl))))))
theorem f_next_twice_put {t n h many : Nat} {v : Int} {ah : List D} (ht : t < 1000) (ha : ah[h]? = some (nI many)) : F_next_twice [.d (encMan' n (.twice t)), .d (nI h), .d (encDeed h (.put v)), .d (.tup ah), .d (encRds (.twice t) [])] = some (.d (encStp (.twice t) h (putOf (.twice t) n h v many []))) := by
  have fb := f_number_behind t many ht
  refine fnD_rt rfl (sSeq_nx (sUnp_ok rfl rfl rfl) (sSeq_nx (sIf_f (cEq_s (a := "put") (b := "look") false rfl rfl) sNil_nx) (sSeq_rt (sIf_t rfl (sRet_d (eTup_ok (ds := [.str "write", kOwn h, .tup [.int v, .int (numOf t many)]]) (aCons_ok rfl (aCons_ok rfl (aCons_ok (eTup_ok (ds := [.int v, .int (numOf t many)]) (aCons_ok rfl (aCons_ok (eCall_ok (n := 2) (F := F_number_behind) (vals := [.d (nI many), .d (nI t)]) (aCons_ok (eIx_at (j := h) rfl rfl rfl ha) (aCons_ok rfl aNil_ok)) fb) aNil_ok)) rfl (by simp)) aNil_ok))) rfl (by simp)))))))
theorem f_next_twice_put1 {t n h : Nat} {v : Int} {ah : List D} : F_next_twice [.d (encMan' n (.twice t)), .d (nI h), .d (encDeed h (.put v)), .d (.tup ah), .d (encRds (.twice t) [.n])] = some (.d (encStp (.twice t) h .fin)) :=
  fnD_rt rfl (sSeq_nx (sUnp_ok rfl rfl rfl) (sSeq_nx (sIf_f (cEq_s (a := "put") (b := "look") false rfl rfl) sNil_nx) (sSeq_nx (sIf_f rfl sNil_nx) (sRet_d rfl))))
end K98

/-! ## Spec5 -/
/-! Looks and puts: handed (5). -/
namespace K98
open PySem PySem.Spec PyProof.Rows L2
theorem lookHanded_cases (n mv : Nat) (rs : List Rd) : (∃ st, lookHanded n mv rs = .told st) ∨ ∃ j, lookHanded n mv rs = .rdO j := by
  unfold lookHanded
  split
  · split
    · exact .inl ⟨_, rfl⟩
    · split
      · exact .inl ⟨_, rfl⟩
      · exact .inr ⟨_, rfl⟩
  · exact .inr ⟨_, rfl⟩
theorem cIsN_c {fa : List Vl → Option Vl} {env : List Vl} {d : D} (h : fa env = some (.d d)) (hd : isNonD d = false) : cIsN fa (eD .non) env = some false := by
  unfold cIsN
  rw [t2_ok h (show eD .non env = some (.d .non) from rfl)]
  show some (isNonD d == true) = some false
  rw [hd] <;> rfl
theorem isNon_encC (k : Kd) (c : C) : isNonD (encC k c) = false := by cases k <;> rfl
section
variable {t m n h many : Nat} {rs : List Rd} {ah : List D}
abbrev hE (t m n h : Nat) (d : Deed) (ah : List D) (rs : List Rd) : List Vl := [.d (encMan' n (.handed t m)), .d (nI h), .d (encDeed h d), .d (.tup ah), .d (encRds (.handed t m) rs)]
theorem f_next_handed_look (hn : 1 ≤ n) (hn2 : n ≤ 60) (hc : allC rs) (hl : rs.length ≤ 900) : F_next_handed (hE t m n h .look ah rs) = some (.d (encStp (.handed t m) h (lookHanded n m rs))) := by
  refine fnD_rt rfl (sSeq_nx (sUnp_ok rfl rfl rfl) (sSeq_nx (sIf_f (cAnd_f (cEq_s (a := "look") (b := "put") false rfl rfl)) sNil_nx) (sSeq_nx (sAsg_d (eCall_ok (n := 3) (F := F_look_handed) (v := .d (encStp (.handed t m) h (lookHanded n m rs))) (vals := [.d (nI n), .d (nI m), .d (encRds (.handed t m) rs)]) rfl (f_look_handed hn hn2 hc hl))) (sSeq_rt (sIf_t (cOr_t (cEq_s (a := "look") (b := "look") true rfl rfl)) (sRet_d rfl))))))
theorem f_next_handed_put {v : Int} (hn : 1 ≤ n) (hn2 : n ≤ 60) (hc : allC rs) (hl : rs.length ≤ 900) (ht : t < 1000) (ha : ah[h]? = some (nI many)) :
    F_next_handed (hE t m n h (.put v) ah rs) = some (.d (encStp (.handed t m) h (putOf (.handed t m) n h v many rs))) := by
  have fb := f_number_behind t many ht
  have hx : (rs.map (encRd (.handed t m))).length = rs.length := List.length_map _
  have first : cAnd (cEq (eIx (eVar 2) (eD (.int 0))) (eD (.str "put"))) (cAnd (cGt (eB1 gLen (aCons (eVar 4) aNil)) (eD (.int 0))) (cIsN (eIx (eVar 4) (eNeg (eD (.int 1)))) (eD .non))) (setAll [5, 6, 7, 8] [.str "handed", nI n, nI t, nI m] (hE t m n h (.put v) ah rs ++ List.replicate 5 .un)) = some false := by
    refine cAnd_t (cEq_s (a := "put") (b := "put") true rfl rfl) ?_
    by_cases h0 : 0 < rs.length
    · refine cAnd_t ((cGt_ok (eLen_rds (k := .handed t m) (rs := rs) rfl) rfl).trans (congrArg some (decide_eq_true ?_))) (cIsN_c (eIx_last (xs := rs.map (encRd (.handed t m))) rfl rfl rfl ?_) (isNon_encC (.handed t m) (at_ rs (rs.length - 1))))
      · omega
      · rw [hx]
        exact (hc (rs.length - 1) (by omega)).enc _
    · refine cAnd_f ((cGt_ok (eLen_rds (k := .handed t m) (rs := rs) rfl) rfl).trans (congrArg some (decide_eq_false ?_)))
      omega
  have look := f_look_handed (t := t) (m := m) (n := n) (mv := m) (h := h) hn hn2 hc hl
  rcases lookHanded_cases n m rs with ⟨st, e⟩ | ⟨j, e⟩
  · have e2 : putOf (.handed t m) n h v many rs = .wrO ⟨v, numOf t many, 0, [], st⟩ := by
      simp only [putOf, e]
    rw [e] at look
    rw [e2]
    refine fnD_rt rfl (sSeq_nx (sUnp_ok rfl rfl rfl) (sSeq_nx (sIf_f first sNil_nx) (sSeq_nx (sAsg_d (eCall_ok (n := 3) (F := F_look_handed) (v := .d (encStp (.handed t m) h (.told st))) (vals := [.d (nI n), .d (nI m), .d (encRds (.handed t m) rs)]) rfl look)) (sSeq_nx (sIf_f (cOr_f (cEq_s (a := "put") (b := "look") false rfl rfl) (cNe_s (a := "told") (b := "told") false rfl rfl)) sNil_nx)
      (sRet_d (eTup_ok (ds := [.str "write", kOwn h, .tup [.int v, .int (numOf t many), tInts st]]) (aCons_ok rfl (aCons_ok rfl (aCons_ok (eTup_ok (ds := [.int v, .int (numOf t many), tInts st]) (aCons_ok rfl (aCons_ok (eCall_ok (n := 2) (F := F_number_behind) (vals := [.d (nI many), .d (nI t)]) (aCons_ok (eIx_at (j := h) rfl rfl rfl ha) (aCons_ok rfl aNil_ok)) fb) (aCons_ok rfl aNil_ok))) rfl (by simp)) aNil_ok))) rfl (by simp)))))))
  · have e2 : putOf (.handed t m) n h v many rs = .rdO j := by
      simp only [putOf, e]
    rw [e] at look
    rw [e2]
    exact fnD_rt rfl (sSeq_nx (sUnp_ok rfl rfl rfl) (sSeq_nx (sIf_f first sNil_nx) (sSeq_nx (sAsg_d (eCall_ok (n := 3) (F := F_look_handed) (v := .d (encStp (.handed t m) h (.rdO j))) (vals := [.d (nI n), .d (nI m), .d (encRds (.handed t m) rs)]) rfl look)) (sSeq_rt (sIf_t (cOr_f (cEq_s (a := "put") (b := "look") false rfl rfl) (cNe_s (a := "read") (b := "told") true rfl rfl)) (sRet_d rfl))))))
theorem f_next_handed_put1 {v : Int} : F_next_handed (hE t m n h (.put v) ah (rs ++ [Rd.n])) = some (.d (encStp (.handed t m) h .fin)) := by
  have hx : ((rs ++ [Rd.n]).map (encRd (.handed t m))).length = rs.length + 1 := by rw [List.length_map, List.length_append] <;> rfl
  refine fnD_rt rfl (sSeq_nx (sUnp_ok rfl rfl rfl) (sSeq_rt (sIf_t (cAnd_t (cEq_s (a := "put") (b := "put") true rfl rfl) (cAnd_t ((cGt_ok (eLen_rds (k := .handed t m) (rs := rs ++ [Rd.n]) rfl) rfl).trans (congrArg some (decide_eq_true ?_))) ?_)) (sRet_d rfl))))
  · rw [List.length_append]
    show (0 : Int) < ((rs.length + 1 : Nat) : Int)
    omega
  · unfold cIsN
    rw [t2_ok (eIx_last (x := .non) (xs := (rs ++ [Rd.n]).map (encRd (.handed t m))) rfl rfl rfl ?_) (show eD .non _ = some (.d .non) from rfl)]
    · rfl
    · rw [hx, Nat.add_sub_cancel, List.map_append, List.getElem?_append_right (by rw [List.length_map]; exact Nat.le_refl _), List.length_map, Nat.sub_self] <;> rfl
end
end K98

/-! ## Spec6 -/
/-! Signs (6): who is seen to move in a round. -/
namespace K98
open PySem PySem.Spec PyProof.Rows L2
/-- the i-th read is a content with n calls -/
def isS (n : Nat) (rs : List Rd) (i : Nat) : Prop := ∃ c, rs[i]? = some (.c c) ∧ c.calls.length = n ∧ c.view.length = n
theorem isS.c {n : Nat} {rs : List Rd} {i : Nat} (h : isS n rs i) : isC rs i := let ⟨c, e, _⟩ := h; ⟨c, e⟩
theorem isS.calls {n : Nat} {rs : List Rd} {i : Nat} (h : isS n rs i) : (at_ rs i).calls.length = n ∧ (at_ rs i).view.length = n := by
  obtain ⟨c, e, q⟩ := h
  unfold at_
  rw [List.getD_eq_getElem?_getD, e]
  exact q
/-- the reads of a round that begins at p -/
def roundOk (n sh : Nat) (rs : List Rd) (p : Nat) : Prop := ∀ i, i < rnd n sh → (shk n sh ≤ i ∨ i % 2 = 0) → isS n rs (p + i)
theorem others_lt {h n j : Nat} (hj : j ∈ others h n) : j < n := List.mem_range.mp (List.mem_filter.mp hj).1
theorem others_len {h n : Nat} (hh : h < n) : (others h n).length = n - 1 := by
  have key : ∀ m, ((List.range m).filter fun j => j != h).length = if h < m then m - 1 else m := by
    intro m
    induction m with
    | zero => simp
    | succ m ih =>
      rw [List.range_succ, List.filter_append, List.length_append, ih]
      by_cases e : m = h
      · subst e; simp
      · have : (m != h) = true := by simp [e]
        rw [List.filter_cons, if_pos this]
        simp only [List.filter_nil, List.length_cons, List.length_nil]
        split <;> split <;> omega
  unfold others
  rw [key n, if_pos hh]
abbrev sMan (n tg sh mv : Nat) : D := encMan' n (.signs tg sh mv)
def rowD (k : Kd) (rs : List Rd) (p l : Nat) : List D := ((rs.map (encRd k)).drop p).take l
theorem rowD_len {k : Kd} {rs : List Rd} {p l : Nat} (h : p + l ≤ rs.length) : (rowD k rs p l).length = l := by
  unfold rowD
  rw [List.length_take, List.length_drop, List.length_map]
  omega
theorem rowD_at {k : Kd} {rs : List Rd} {p l i : Nat} (hi : i < l) (h : isC rs (p + i)) : (rowD k rs p l)[i]? = some (encC k (at_ rs (p + i))) := by
  unfold rowD
  rw [cut_take hi]
  exact h.enc k
def miBody : List Vl → Option Out := sSeq (sAsg 13 (eLst (aCons (eIx (eIx (eIx (eVar 8) (eVar 12)) (eD (.int 1))) (eVar 0)) (aCons (eIx (eIx (eIx (eVar 9) (eVar 12)) (eD (.int 1))) (eVar 0)) aNil)))) (sSeq (sAsg 14 (eD .non)) (sSeq (sIf (cEq (eVar 6) (eD (.int 1))) (sAsg 14 (eIx (eIx (eIx (eVar 2) (eMul (eD (.int 2)) (eVar 11))) (eD (.int 1))) (eVar 0))) sNil) (sIf (cOr (cAnd (cEq (eVar 5) (eD (.int 1))) (cNe (eIx (eIx (eVar 8) (eVar 12)) (eD (.int 2))) (eIx (eIx (eVar 9) (eVar 12)) (eD (.int 2))))) (cAnd (cEq (eVar 6) (eD (.int 1))) (cNe (eVar 13) (eLst (aCons (eVar 14) (aCons (eVar 14) aNil)))))) (sApp 10 (aCons (eVar 12) aNil)) sNil)))
theorem sApp_ok {fs : List Vl → Option (List Vl)} {env : List Vl} {i : Nat} {xs : List D} {v : D} (h0 : env[i]? = some (.o xs)) (h1 : fs env = some [.d v]) (h3 : xs.length ≤ 1000) : sApp i fs env = some (.nx (env.set i (.o (xs ++ [v])))) := by
  unfold sApp
  rw [h0]
  show (fs env).bind _ = _
  rw [h1, Option.bind_some]
  show (datOf (.d v)).bind _ = _
  rw [show datOf (.d v) = some v from rfl, Option.bind_some, if_pos h3]
theorem cNe_pair {fa fb : List Vl → Option Vl} {env : List Vl} {a b c : Int} (h1 : fa env = some (.u [.int a, .int b])) (h2 : fb env = some (.o [.int c, .int c])) : cNe fa fb env = some (!(decide (a = c) && decide (b = c))) := by
  unfold cNe
  rw [t2_ok h1 h2]
  unfold gNe
  rw [show deepOf (.u [.int a, .int b]) = some (.list [.int a, .int b]) from rfl, show deepOf (.o [.int c, .int c]) = some (.list [.int c, .int c]) from rfl, Option.bind_some, Option.bind_some, if_pos ⟨rfl, rfl⟩]
  simp only [PyData.eqv, PyData.eqvAll, Bool.and_true]
  rfl
theorem tint_at {l : List Int} {h : Nat} (hh : h < l.length) : (l.map D.int)[h]? = some (.int (l.getD h 0)) := by
  rw [List.getElem?_map, List.getElem?_eq_getElem hh, List.getD_eq_getElem?_getD, List.getElem?_eq_getElem hh] <;> rfl
section
variable {h n tg sh mv : Nat} {rs : List Rd}
/-- the state of moved_in's loop -/
def miEnv (h n tg sh mv : Nat) (rs : List Rd) (p : Nat) (seen : List Nat) (a b c d : Vl) : List Vl :=
  [.d (nI h), .d (sMan n tg sh mv), .d (.tup (rowD (.signs tg sh mv) rs p (rnd n sh))), .d (.str "signs"), .d (nI n), .d (nI tg), .d (nI sh), .d (nI mv), .d (.tup (rowD (.signs tg sh mv) rs (p + shk n sh) n)), .d (.tup (rowD (.signs tg sh mv) rs (p + shk n sh + n) n)), .o (seen.map nI), a, b, c, d]
theorem mi_step (hh : h < n) (hn2 : n ≤ 60) (hsh : sh ≤ 1) (htg : tg ≤ 1) {p : Nat} (ok : roundOk n sh rs p) {seen : List Nat} (hs : seen.length ≤ 900) {i j : Nat} (hj : (others h n)[i]? = some j) (a b c d : Vl) :
    ∃ c' d', miBody (miEnv h n tg sh mv rs p seen (.d (nI i)) (.d (nI j)) c d) = some (.nx (miEnv h n tg sh mv rs p (if mvS h n tg sh rs p j i = true then seen ++ [j] else seen) (.d (nI i)) (.d (nI j)) c' d')) := by
  have hjn := others_lt (List.mem_of_getElem? hj)
  have hin : i < n - 1 := by
    have := (List.getElem?_eq_some_iff.mp hj).1
    rw [others_len hh] at this
    exact this
  have er : rnd n sh = shk n sh + 2 * n := rfl
  have o1 := ok (shk n sh + j) (by omega) (.inl (by omega))
  have o2 := ok (shk n sh + n + j) (by omega) (.inl (by omega))
  rw [← Nat.add_assoc] at o1
  rw [← Nat.add_assoc, ← Nat.add_assoc] at o2
  have x1 : (rowD (.signs tg sh mv) rs (p + shk n sh) n)[j]? = some (encC (.signs tg sh mv) (at_ rs (p + shk n sh + j))) := rowD_at hjn o1.c
  have x2 : (rowD (.signs tg sh mv) rs (p + shk n sh + n) n)[j]? = some (encC (.signs tg sh mv) (at_ rs (p + shk n sh + n + j))) := rowD_at hjn o2.c
  let A := (at_ rs (p + shk n sh + j)).calls.getD h 0
  let B := (at_ rs (p + shk n sh + n + j)).calls.getD h 0
  have cA : ∀ e : List Vl, eVar 8 e = some (.d (.tup (rowD (.signs tg sh mv) rs (p + shk n sh) n))) → eVar 12 e = some (.d (nI j)) → eVar 0 e = some (.d (nI h)) → eIx (eIx (eIx (eVar 8) (eVar 12)) (eD (.int 1))) (eVar 0) e = some (.d (.int A)) := fun e h1 h2 h3 =>
    eIx_at (j := h) (eIx_at (j := 1) (eIx_at (j := j) h1 rfl h2 x1) rfl rfl rfl) rfl h3 (tint_at (by rw [o1.calls.1]; exact hh))
  have cB : ∀ e : List Vl, eVar 9 e = some (.d (.tup (rowD (.signs tg sh mv) rs (p + shk n sh + n) n))) → eVar 12 e = some (.d (nI j)) → eVar 0 e = some (.d (nI h)) → eIx (eIx (eIx (eVar 9) (eVar 12)) (eD (.int 1))) (eVar 0) e = some (.d (.int B)) := fun e h1 h2 h3 =>
    eIx_at (j := h) (eIx_at (j := 1) (eIx_at (j := j) h1 rfl h2 x2) rfl rfl rfl) rfl h3 (tint_at (by rw [o2.calls.1]; exact hh))
  have tgl : ∀ e : List Vl, eVar 5 e = some (.d (nI tg)) → eVar 8 e = some (.d (.tup (rowD (.signs tg sh mv) rs (p + shk n sh) n))) → eVar 9 e = some (.d (.tup (rowD (.signs tg sh mv) rs (p + shk n sh + n) n))) → eVar 12 e = some (.d (nI j)) →
      cAnd (cEq (eVar 5) (eD (.int 1))) (cNe (eIx (eIx (eVar 8) (eVar 12)) (eD (.int 2))) (eIx (eIx (eVar 9) (eVar 12)) (eD (.int 2)))) e = some (decide (tg = 1) && (at_ rs (p + shk n sh + j)).tog != (at_ rs (p + shk n sh + n + j)).tog) := fun e h1 h2 h3 h4 => by
    have q1 : cEq (eVar 5) (eD (.int 1)) e = some (decide (tg = 1)) := (cEq_int h1 rfl).trans (congrArg some (decide_eq_decide.mpr (by omega)))
    have q2 : cNe (eIx (eIx (eVar 8) (eVar 12)) (eD (.int 2))) (eIx (eIx (eVar 9) (eVar 12)) (eD (.int 2))) e = some ((at_ rs (p + shk n sh + j)).tog != (at_ rs (p + shk n sh + n + j)).tog) := by
      rw [cNe_int (eIx_at (j := 2) (eIx_at (j := j) h2 rfl h4 x1) rfl rfl rfl) (eIx_at (j := 2) (eIx_at (j := j) h3 rfl h4 x2) rfl rfl rfl)]
      by_cases e : (at_ rs (p + shk n sh + j)).tog = (at_ rs (p + shk n sh + n + j)).tog <;> simp [e]
    by_cases ht : tg = 1
    · rw [cAnd_t (q1.trans (congrArg some (decide_eq_true ht))) q2, decide_eq_true ht, Bool.true_and]
    · rw [cAnd_f (q1.trans (congrArg some (decide_eq_false ht))), decide_eq_false ht, Bool.false_and]
  have fin : ∀ (k : Bool) (c' d' : Vl) (t : List Vl → Option Bool), k = mvS h n tg sh rs p j i → t (miEnv h n tg sh mv rs p seen (.d (nI i)) (.d (nI j)) c' d') = some k →
      sIf t (sApp 10 (aCons (eVar 12) aNil)) sNil (miEnv h n tg sh mv rs p seen (.d (nI i)) (.d (nI j)) c' d') = some (.nx (miEnv h n tg sh mv rs p (if mvS h n tg sh rs p j i = true then seen ++ [j] else seen) (.d (nI i)) (.d (nI j)) c' d')) := fun k c' d' t hk ht => by
    rw [← hk]
    cases k with
    | true =>
      rw [if_pos rfl]
      refine sIf_t ht ?_
      refine (sApp_ok (fs := aCons (eVar 12) aNil) (xs := seen.map nI) (v := nI j) rfl rfl (by rw [List.length_map]; omega)).trans ?_
      unfold miEnv
      rw [List.map_append]
      rfl
    | false =>
      rw [if_neg Bool.false_ne_true]
      exact sIf_f ht sNil_nx
  by_cases hs1 : sh = 1
  · subst hs1
    have o3 := ok (2 * i) (by omega) (.inr (by omega))
    have x3 : (rowD (.signs tg 1 mv) rs p (rnd n 1))[2 * i]? = some (encC (.signs tg 1 mv) (at_ rs (p + 2 * i))) := rowD_at (by omega) o3.c
    let S := (at_ rs (p + 2 * i)).calls.getD h 0
    refine ⟨.o [.int A, .int B], .d (.int S), sSeq_nx (sAsg_o (xs := [.int A, .int B]) ?_) (sSeq_nx (sAsg_d rfl) (sSeq_nx (sIf_t ?_ (sAsg_d (x := .int S) ?_)) ?_))⟩
    · unfold eLst
      rw [aCons_ok (cA _ rfl rfl rfl) (aCons_ok (cB _ rfl rfl rfl) aNil_ok)] <;> rfl
    · rfl
    · exact eIx_at (j := h) (eIx_at (j := 1) (eIx_at (j := 2 * i) rfl rfl (eMulN_ok (i := 2) (j := i) rfl rfl (by omega)) x3) rfl rfl rfl) rfl rfl (tint_at (by rw [o3.calls.1]; exact hh))
    · refine fin _ (.o [.int A, .int B]) (.d (.int S)) _ rfl ?_
      have t1 := tgl (miEnv h n tg 1 mv rs p seen (.d (nI i)) (.d (nI j)) (.o [.int A, .int B]) (.d (.int S))) rfl rfl rfl rfl
      have t2 : cAnd (cEq (eVar 6) (eD (.int 1))) (cNe (eVar 13) (eLst (aCons (eVar 14) (aCons (eVar 14) aNil)))) (miEnv h n tg 1 mv rs p seen (.d (nI i)) (.d (nI j)) (.o [.int A, .int B]) (.d (.int S))) = some (!(decide (A = S) && decide (B = S))) := cAnd_t rfl (cNe_pair rfl rfl)
      unfold mvS
      rw [decide_eq_true (show (1 : Nat) = 1 from rfl), Bool.true_and]
      cases hb : (decide (tg = 1) && (at_ rs (p + shk n 1 + j)).tog != (at_ rs (p + shk n 1 + n + j)).tog) with
      | true => rw [Bool.true_or]; exact cOr_t (t1.trans (congrArg some hb))
      | false => rw [Bool.false_or]; exact cOr_f (t1.trans (congrArg some hb)) t2
  · have hs0 : sh = 0 := by omega
    subst hs0
    refine ⟨.o [.int A, .int B], .d .non, sSeq_nx (sAsg_o (xs := [.int A, .int B]) ?_) (sSeq_nx (sAsg_d rfl) (sSeq_nx (sIf_f rfl sNil_nx) ?_))⟩
    · unfold eLst
      rw [aCons_ok (cA _ rfl rfl rfl) (aCons_ok (cB _ rfl rfl rfl) aNil_ok)] <;> rfl
    · refine fin _ (.o [.int A, .int B]) (.d .non) _ rfl ?_
      have t1 := tgl (miEnv h n tg 0 mv rs p seen (.d (nI i)) (.d (nI j)) (.o [.int A, .int B]) (.d .non)) rfl rfl rfl rfl
      have t2 : cAnd (cEq (eVar 6) (eD (.int 1))) (cNe (eVar 13) (eLst (aCons (eVar 14) (aCons (eVar 14) aNil)))) (miEnv h n tg 0 mv rs p seen (.d (nI i)) (.d (nI j)) (.o [.int A, .int B]) (.d .non)) = some false := cAnd_f rfl
      unfold mvS
      rw [decide_eq_false (show ¬ (0 : Nat) = 1 by omega), Bool.false_and, Bool.or_false]
      cases hb : (decide (tg = 1) && (at_ rs (p + shk n 0 + j)).tog != (at_ rs (p + shk n 0 + n + j)).tog) with
      | true => exact cOr_t (t1.trans (congrArg some hb))
      | false => exact cOr_f (t1.trans (congrArg some hb)) t2
theorem zip_take {α : Type} : ∀ {l : List α} {i s : Nat} {x : α}, l[i]? = some x → ((l.zipIdx s).take (i + 1)) = (l.zipIdx s).take i ++ [(x, s + i)]
  | [], _, _, _, h => by simp at h
  | a :: r, 0, s, x, h => by
    simp only [List.getElem?_cons_zero, Option.some.injEq] at h
    subst h
    simp [List.zipIdx_cons]
  | a :: r, i + 1, s, x, h => by
    have := zip_take (l := r) (i := i) (s := s + 1) (x := x) (by simpa using h)
    rw [List.zipIdx_cons, List.take_succ_cons, this, List.take_succ_cons, show s + 1 + i = s + (i + 1) by omega]
    rfl
def seenUp (h n tg sh : Nat) (rs : List Rd) (p i : Nat) : List Nat := ((((others h n).zipIdx).take i).filter fun q => mvS h n tg sh rs p q.1 q.2).map (·.1)
theorem seenUp_succ {h n tg sh : Nat} {rs : List Rd} {p i j : Nat} (hj : (others h n)[i]? = some j) : seenUp h n tg sh rs p (i + 1) = if mvS h n tg sh rs p j i = true then seenUp h n tg sh rs p i ++ [j] else seenUp h n tg sh rs p i := by
  unfold seenUp
  rw [zip_take hj, List.filter_append, List.map_append]
  have e : (0 + i) = i := Nat.zero_add i
  rw [List.filter_cons, e]
  split
  · rfl
  · simp
theorem seenUp_len {h n tg sh : Nat} {rs : List Rd} {p i : Nat} : (seenUp h n tg sh rs p i).length ≤ n := by
  unfold seenUp
  rw [List.length_map]
  have h1 := List.length_filter_le (fun q : Nat × Nat => mvS h n tg sh rs p q.1 q.2) (((others h n).zipIdx).take i)
  have h2 : (((others h n).zipIdx).take i).length ≤ (others h n).length := by
    rw [List.length_take, List.length_zipIdx]
    omega
  have h3 : (others h n).length ≤ n := by
    unfold others
    have := List.length_filter_le (fun j => j != h) (List.range n)
    rw [List.length_range] at this
    exact this
  omega
theorem movedS_up {h n tg sh : Nat} {rs : List Rd} {p : Nat} : movedS h n tg sh rs p = seenUp h n tg sh rs p (others h n).length := by
  unfold movedS seenUp
  rw [List.take_of_length_le (by rw [List.length_zipIdx]; exact Nat.le_refl _)]
theorem f_moved (hh : h < n) (hn2 : n ≤ 60) (hsh : sh ≤ 1) (htg : tg ≤ 1) {p : Nat} (ok : roundOk n sh rs p) (hp : p + rnd n sh ≤ rs.length) :
    F_moved_in_signs [.d (nI h), .d (sMan n tg sh mv), .d (.tup (rowD (.signs tg sh mv) rs p (rnd n sh)))] = some (.o ((movedS h n tg sh rs p).map nI)) := by
  have er : rnd n sh = shk n sh + 2 * n := rfl
  have hlen := rowD_len (k := .signs tg sh mv) (rs := rs) (p := p) (l := rnd n sh) hp
  have c1 : cutD (rowD (.signs tg sh mv) rs p (rnd n sh)) (some (-2 * (n : Int))) (some (-(n : Int))) = rowD (.signs tg sh mv) rs (p + shk n sh) n := by
    rw [cut_neg2 (by omega) (by rw [hlen]; omega), hlen]
    unfold rowD
    rw [List.drop_take, List.drop_drop, List.take_take, Nat.min_eq_left (by omega)]
    congr 2
    omega
  have c2 : cutD (rowD (.signs tg sh mv) rs p (rnd n sh)) (some (-(n : Int))) none = rowD (.signs tg sh mv) rs (p + shk n sh + n) n := by
    rw [cut_neg (by omega) (by rw [hlen]; omega), hlen]
    unfold rowD
    rw [List.drop_take, List.drop_drop]
    congr 1
    · omega
    · congr 1
      omega
  have s1 : sUnp [3, 4, 5, 6, 7] (eVar 1) ([.d (nI h), .d (sMan n tg sh mv), .d (.tup (rowD (.signs tg sh mv) rs p (rnd n sh)))] ++ List.replicate 12 .un) = some (.nx _) := sUnp_ok rfl rfl rfl
  have src : sEnum (aCons (eCall 2 F_others (aCons (eVar 0) (aCons (eVar 4) aNil))) aNil) (miEnv h n tg sh mv rs p [] .un .un .un .un) = some (enumD 0 ((others h n).map nI)) := by
    unfold sEnum
    have q : eCall 2 F_others (aCons (eVar 0) (aCons (eVar 4) aNil)) (miEnv h n tg sh mv rs p [] .un .un .un .un) = some (.o ((others h n).map nI)) := eCall_ok (v := .o ((others h n).map nI)) (vals := [.d (nI h), .d (nI n)]) rfl (f_others h n (by omega))
    rw [aCons_ok q aNil_ok] <;> rfl
  have loop := forM_inv (gd := gP [11, 12]) (body := miBody) (fun i env => ∃ a b c d, env = miEnv h n tg sh mv rs p (seenUp h n tg sh rs p i) a b c d) (enumD 0 ((others h n).map nI)) 0 (miEnv h n tg sh mv rs p [] .un .un .un .un) ⟨_, _, _, _, rfl⟩ ?_
  · obtain ⟨e', h1, a, b, c, d, rfl⟩ := loop
    rw [Nat.zero_add, enumD_len, List.length_map] at h1
    have fo : sFor (sEnum (aCons (eCall 2 F_others (aCons (eVar 0) (aCons (eVar 4) aNil))) aNil)) (gP [11, 12]) miBody (miEnv h n tg sh mv rs p [] .un .un .un .un) = forM (gP [11, 12]) miBody (enumD 0 ((others h n).map nI)) (miEnv h n tg sh mv rs p [] .un .un .un .un) := by
      unfold sFor
      rw [src, Option.bind_some]
    rw [movedS_up]
    refine fnD_rt rfl (sSeq_nx s1 (sSeq_nx (sAsg_d (x := .tup (rowD (.signs tg sh mv) rs (p + shk n sh) n)) ?_) (sSeq_nx (sAsg_d (x := .tup (rowD (.signs tg sh mv) rs (p + shk n sh + n) n)) ?_) (sSeq_nx (sAsg_o rfl) (sSeq_nx (fo.trans h1) (sRet_u rfl))))))
    · rw [← c1]
      exact eSl_ok rfl (oSome_ok (eMul_ok (i := -2) (j := (n : Int)) rfl rfl (by decide))) (oSome_ok (i := -(n : Int)) rfl)
    · rw [← c2]
      exact eSl_ok rfl (oSome_ok (i := -(n : Int)) rfl) rfl
  · rintro i d env hi ⟨a, b, c, d', rfl⟩
    rw [Nat.zero_add]
    have hil : i < (others h n).length := by
      have := (List.getElem?_eq_some_iff.mp hi).1
      rw [enumD_len, List.length_map] at this
      exact this
    have hj : (others h n)[i]? = some (others h n)[i] := List.getElem?_eq_getElem hil
    have hd : (enumD 0 ((others h n).map nI))[i]? = some (.tup [.int ((i : Nat) : Int), nI (others h n)[i]]) := by
      have q0 := enumD_at (i := 0) (l := (others h n).map nI) (j := i) (d := nI (others h n)[i]) (by rw [List.getElem?_map, hj] <;> rfl)
      rw [Nat.zero_add] at q0
      exact q0
    rw [hd] at hi
    cases hi
    obtain ⟨c', d'', q⟩ := mi_step (tg := tg) (mv := mv) hh hn2 hsh htg ok (seen := seenUp h n tg sh rs p i) (Nat.le_trans seenUp_len (by omega)) hj .un .un c d'
    rw [seenUp_succ hj]
    exact ⟨_, _, rfl, q, _, _, _, _, rfl⟩
end
end K98

/-! ## Spec7 -/
/-! Signs (7): the look. -/
namespace K98
open PySem PySem.Spec PyProof.Rows L2
theorem f_round (n sh : Nat) (hn : 1 ≤ n) (hs : sh ≤ 1) : F_round_length_signs [.d (nI n), .d (nI sh)] = some (.d (nI (rnd n sh))) := by
  refine fnD_rt rfl (sRet_d (x := nI (rnd n sh)) ?_)
  exact eAdd_ok (i := 2 * sh * (n - 1)) (j := 2 * n) (eMulN_ok (i := 2 * sh) (j := n - 1) (eMulN_ok (i := 2) (j := sh) rfl rfl (by omega)) (eSub_ok (i := n) (j := 1) rfl rfl hn) (by omega)) (eMulN_ok (i := 2) (j := n) rfl rfl (by omega))
/-- the reads of a look of signs -/
def sOk (n sh : Nat) (rs : List Rd) : Prop := ∀ i, i < rs.length → (shk n sh ≤ i % rnd n sh ∨ (i % rnd n sh) % 2 = 0) → isS n rs i
theorem rnd_pos1 {n sh : Nat} (hn : 1 ≤ n) : 0 < rnd n sh := by unfold rnd; omega
theorem sOk.round {n sh : Nat} {rs : List Rd} (ok : sOk n sh rs) {r : Nat} (hr : r * rnd n sh + rnd n sh ≤ rs.length) : roundOk n sh rs (r * rnd n sh) := fun i hi hc => by
  refine ok _ (by omega) ?_
  have e : (r * rnd n sh + i) % rnd n sh = i := by
    rw [Nat.add_comm, Nat.add_mul_mod_self_right, Nat.mod_eq_of_lt hi]
  rw [e]
  exact hc
section
variable {h n tg sh mv : Nat} {rs : List Rd}
theorem shk_le (hs : sh ≤ 1) : shk n sh ≤ 2 * (n - 1) := by
  unfold shk
  have : 2 * sh * (n - 1) ≤ 2 * 1 * (n - 1) := Nat.mul_le_mul_right _ (by omega)
  omega
theorem f_shake (hh : h < n) (hn2 : n ≤ 60) (hs : sh ≤ 1) {at' : Nat} (ha : at' < shk n sh) (hl : at' % 2 = 1 → isS n rs (rs.length - 1)) :
    F_shake_step [.d (nI h), .d (nI n), .d (encRds (.signs tg sh mv) rs), .d (nI at')] = some (.d (encStp (.signs tg sh mv) h (if at' % 2 = 0 then .rdO ((others h n).getD (at' / 2) 0) else .wrS h ((others h n).getD (at' / 2) 0) ((at_ rs (rs.length - 1)).calls.getD h 0)))) := by
  have hi : at' / 2 < (others h n).length := by
    rw [others_len hh]
    have := shk_le (n := n) hs
    omega
  have hj : (others h n)[at' / 2]? = some ((others h n).getD (at' / 2) 0) := by
    rw [List.getD_eq_getElem?_getD, List.getElem?_eq_getElem hi] <;> rfl
  generalize (others h n).getD (at' / 2) 0 = j at hj
  have e1 : eCall 2 F_others (aCons (eVar 0) (aCons (eVar 1) aNil)) [.d (nI h), .d (nI n), .d (encRds (.signs tg sh mv) rs), .d (nI at'), .un] = some (.o ((others h n).map nI)) := eCall_ok (v := .o ((others h n).map nI)) (vals := [.d (nI h), .d (nI n)]) rfl (f_others h n (by omega))
  have e2 : sAsg 4 (eIx (eCall 2 F_others (aCons (eVar 0) (aCons (eVar 1) aNil))) (eDiv (eVar 3) (eD (.int 2)))) [.d (nI h), .d (nI n), .d (encRds (.signs tg sh mv) rs), .d (nI at'), .un] = some (.nx [.d (nI h), .d (nI n), .d (encRds (.signs tg sh mv) rs), .d (nI at'), .d (nI j)]) :=
    sAsg_d (x := nI j) (eIx_at (j := at' / 2) e1 rfl (eDiv_ok (i := at') (j := 2) rfl rfl (by omega)) (by rw [List.getElem?_map, hj] <;> rfl))
  have e3 : cEq (eMod (eVar 3) (eD (.int 2))) (eD (.int 0)) [.d (nI h), .d (nI n), .d (encRds (.signs tg sh mv) rs), .d (nI at'), .d (nI j)] = some (decide (at' % 2 = 0)) := by
    rw [cEq_int (eMod_ok (i := at') (j := 2) rfl rfl (by omega)) rfl]
    exact congrArg some (decide_eq_decide.mpr (by omega))
  by_cases h2 : at' % 2 = 0
  · rw [if_pos h2]
    exact fnD_rt rfl (sSeq_nx e2 (sSeq_rt (sIf_t (e3.trans (congrArg some (decide_eq_true h2))) (sRet_d (eCall_ok (n := 1) (F := F_own_read) (v := .d (.tup [.str "read", kOwn j])) (vals := [.d (nI j)]) rfl (f_own_read j))))))
  · rw [if_neg h2]
    have o := hl (by omega)
    have lx : (rs.map (encRd (.signs tg sh mv)))[(rs.map (encRd (.signs tg sh mv))).length - 1]? = some (encC (.signs tg sh mv) (at_ rs (rs.length - 1))) := by
      rw [List.length_map]
      exact o.c.enc _
    refine fnD_rt rfl (sSeq_nx e2 (sSeq_nx (sIf_f (e3.trans (congrArg some (decide_eq_false h2))) sNil_nx) (sRet_d (eTup_ok (ds := [.str "write", kSgn h j, .int ((at_ rs (rs.length - 1)).calls.getD h 0)]) (aCons_ok rfl (aCons_ok rfl (aCons_ok (eIx_at (j := h) (eIx_at (j := 1) (eIx_last (xs := rs.map (encRd (.signs tg sh mv))) rfl rfl rfl lx) rfl rfl rfl) rfl rfl (tint_at (by rw [o.calls.1]; exact hh))) aNil_ok))) rfl (by simp)))))
/-- the slots of look_signs -/
def lsE (h n tg sh mv : Nat) (rs : List Rd) (a b c d e f : Vl) : List Vl :=
  [.d (nI h), .d (sMan n tg sh mv), .d (encRds (.signs tg sh mv) rs), .d (.str "signs"), .d (nI n), .d (nI tg), .d (nI sh), .d (nI mv), .d (nI (rnd n sh)), a, b, c, d, e, f]
def lsTail : List Vl → Option Out := sSeq (sAsg 13 (eMod (eB1 gLen (aCons (eVar 2) aNil)) (eVar 8))) (sSeq (sIf (cLt (eVar 13) (eSub (eVar 8) (eMul (eD (.int 2)) (eVar 4)))) (sRet (eCall 4 F_shake_step (aCons (eVar 0) (aCons (eVar 4) (aCons (eVar 2) (aCons (eVar 13) aNil)))))) sNil) (sRet (eCall 1 F_own_read (aCons (eMod (eSub (eVar 13) (eSub (eVar 8) (eMul (eD (.int 2)) (eVar 4)))) (eVar 4)) aNil))))
theorem ls_tail (hh : h < n) (hn2 : n ≤ 60) (hs : sh ≤ 1) (ok : sOk n sh rs) (hl : rs.length ≤ 900) (a b c d e f : Vl) : lsTail (lsE h n tg sh mv rs a b c d e f) = some (.rt (.d (encStp (.signs tg sh mv) h (goOnS h n sh rs)))) := by
  have hr : rnd n sh = shk n sh + 2 * n := rfl
  have hp := rnd_pos1 (n := n) (sh := sh) (by omega)
  have sub : ∀ a b c d e f, eSub (eVar 8) (eMul (eD (.int 2)) (eVar 4)) (lsE h n tg sh mv rs a b c d e f) = some (.d (nI (shk n sh))) := fun a b c d e f => by
    have q := eSub_ok (fa := eVar 8) (fb := eMul (eD (.int 2)) (eVar 4)) (env := lsE h n tg sh mv rs a b c d e f) (i := rnd n sh) (j := 2 * n) rfl (eMulN_ok (i := 2) (j := n) rfl rfl (by omega)) (by omega)
    rw [hr, Nat.add_sub_cancel] at q
    exact q
  have e1 : sAsg 13 (eMod (eB1 gLen (aCons (eVar 2) aNil)) (eVar 8)) (lsE h n tg sh mv rs a b c d e f) = some (.nx (lsE h n tg sh mv rs a b c d (.d (nI (rs.length % rnd n sh))) f)) := sAsg_d (eMod_ok (i := rs.length) (j := rnd n sh) (eLen_rds (k := .signs tg sh mv) (rs := rs) rfl) rfl hp)
  have e2 : cLt (eVar 13) (eSub (eVar 8) (eMul (eD (.int 2)) (eVar 4))) (lsE h n tg sh mv rs a b c d (.d (nI (rs.length % rnd n sh))) f) = some (decide (rs.length % rnd n sh < shk n sh)) := by
    rw [cLt_ok (i := ((rs.length % rnd n sh : Nat) : Int)) (j := ((shk n sh : Nat) : Int)) rfl (sub a b c d (.d (nI (rs.length % rnd n sh))) f)]
    exact congrArg some (decide_eq_decide.mpr (by omega))
  have hm := Nat.mod_lt rs.length hp
  unfold goOnS
  by_cases h1 : rs.length % rnd n sh < shk n sh
  · rw [if_pos h1]
    have sk := f_shake (tg := tg) (mv := mv) hh hn2 hs (rs := rs) h1 fun ho => by
      have hpos : 0 < rs.length := by
        rcases Nat.eq_zero_or_pos rs.length with z | z
        · rw [z, Nat.zero_mod] at ho; cases ho
        · exact z
      refine ok _ (by omega) (.inr ?_)
      have e : (rs.length - 1) % rnd n sh = rs.length % rnd n sh - 1 := by
        have q := Nat.div_add_mod rs.length (rnd n sh)
        have : rs.length - 1 = (rs.length % rnd n sh - 1) + rnd n sh * (rs.length / rnd n sh) := by omega
        rw [this, Nat.add_mul_mod_self_left, Nat.mod_eq_of_lt (by omega)]
      rw [e]
      omega
    exact sSeq_nx e1 (sSeq_rt (sIf_t (e2.trans (congrArg some (decide_eq_true h1))) (sRet_d (eCall_ok (n := 4) (F := F_shake_step) (vals := [.d (nI h), .d (nI n), .d (encRds (.signs tg sh mv) rs), .d (nI (rs.length % rnd n sh))]) rfl sk))))
  · rw [if_neg h1]
    have e3 : eMod (eSub (eVar 13) (eSub (eVar 8) (eMul (eD (.int 2)) (eVar 4)))) (eVar 4) (lsE h n tg sh mv rs a b c d (.d (nI (rs.length % rnd n sh))) f) = some (.d (nI ((rs.length % rnd n sh - shk n sh) % n))) :=
      eMod_ok (i := rs.length % rnd n sh - shk n sh) (j := n) (eSub_ok (i := rs.length % rnd n sh) (j := shk n sh) rfl (sub a b c d (.d (nI (rs.length % rnd n sh))) f) (by omega)) rfl (by omega)
    exact sSeq_nx e1 (sSeq_nx (sIf_f (e2.trans (congrArg some (decide_eq_false h1))) sNil_nx) (sRet_d (eCall_ok (n := 1) (F := F_own_read) (v := .d (.tup [.str "read", kOwn ((rs.length % rnd n sh - shk n sh) % n)])) (vals := [.d (nI ((rs.length % rnd n sh - shk n sh) % n))]) (aCons_ok e3 aNil_ok) (f_own_read _))))
end
end K98

/-! ## Spec8 -/
/-! Signs (8): the look, whole. -/
namespace K98
open PySem PySem.Spec PyProof.Rows L2
theorem stepN_full {q r : Nat} (hq : 1 ≤ q) (hr : 1 ≤ r) : stepN (q * r) r = q := by
  unfold stepN
  have h1 : 0 < q * r := Nat.mul_pos hq hr
  rw [if_pos h1]
  have e : q * r - 1 = (r - 1) + r * (q - 1) := by
    have : q * r = r * (q - 1) + r := by
      rw [Nat.mul_comm q r]
      have : r * q = r * (q - 1 + 1) := by rw [Nat.sub_add_cancel hq]
      rw [this, Nat.mul_succ]
    omega
  rw [e, Nat.add_mul_div_left _ _ hr, Nat.div_eq_of_lt (by omega)]
  omega
section
variable {h n tg sh mv : Nat} {rs : List Rd}
theorem movedS_len {p : Nat} : (movedS h n tg sh rs p).length ≤ n := by rw [movedS_up]; exact seenUp_len
theorem mem_movedS {p j : Nat} (hj : j ∈ movedS h n tg sh rs p) : j < n := by
  unfold movedS at hj
  obtain ⟨q, hq, rfl⟩ := List.mem_map.mp hj
  have h1 := (List.mem_filter.mp hq).1
  have h2 : q.1 ∈ others h n := by
    obtain ⟨a, b⟩ := q
    have := List.mem_zipIdx h1
    rw [this.2.2]
    exact List.getElem_mem _
  exact others_lt h2
theorem f_look_signs (hh : h < n) (hn2 : n ≤ 60) (hs : sh ≤ 1) (htg : tg ≤ 1) (ok : sOk n sh rs) (hl : rs.length ≤ 900) :
    F_look_signs [.d (nI h), .d (sMan n tg sh mv), .d (encRds (.signs tg sh mv) rs)] = some (.d (encStp (.signs tg sh mv) h (lookSigns h n tg sh mv rs))) := by
  let k : Kd := .signs tg sh mv
  have hx : (rs.map (encRd k)).length = rs.length := List.length_map _
  have er : rnd n sh = shk n sh + 2 * n := rfl
  have hp := rnd_pos1 (n := n) (sh := sh) (by omega)
  have hk := shk_le (n := n) hs
  have u1 : sUnp [3, 4, 5, 6, 7] (eVar 1) ([.d (nI h), .d (sMan n tg sh mv), .d (encRds k rs)] ++ List.replicate 12 .un) = some (.nx ([.d (nI h), .d (sMan n tg sh mv), .d (encRds k rs), .d (.str "signs"), .d (nI n), .d (nI tg), .d (nI sh), .d (nI mv), .un, .un, .un, .un, .un, .un, .un])) := sUnp_ok (v := .d (sMan n tg sh mv)) (xs := [.str "signs", nI n, nI tg, nI sh, nI mv]) rfl rfl rfl
  have u2 : sAsg 8 (eCall 2 F_round_length_signs (aCons (eVar 4) (aCons (eVar 6) aNil))) [.d (nI h), .d (sMan n tg sh mv), .d (encRds k rs), .d (.str "signs"), .d (nI n), .d (nI tg), .d (nI sh), .d (nI mv), .un, .un, .un, .un, .un, .un, .un] = some (.nx (lsE h n tg sh mv rs .un .un .un .un .un .un)) :=
    sAsg_d (eCall_ok (n := 2) (F := F_round_length_signs) (v := .d (nI (rnd n sh))) (vals := [.d (nI n), .d (nI sh)]) rfl (f_round n sh (by omega) hs))
  have c1 : cAnd (cGt (eB1 gLen (aCons (eVar 2) aNil)) (eD (.int 0))) (cEq (eMod (eB1 gLen (aCons (eVar 2) aNil)) (eVar 8)) (eD (.int 0))) (lsE h n tg sh mv rs .un .un .un .un .un .un) = some (decide (0 < rs.length ∧ rs.length % rnd n sh = 0)) := by
    have a1 : cGt (eB1 gLen (aCons (eVar 2) aNil)) (eD (.int 0)) (lsE h n tg sh mv rs .un .un .un .un .un .un) = some (decide (0 < rs.length)) := (cGt_ok (eLen_rds (k := k) (rs := rs) rfl) rfl).trans (congrArg some (decide_eq_decide.mpr (by omega)))
    have a2 : cEq (eMod (eB1 gLen (aCons (eVar 2) aNil)) (eVar 8)) (eD (.int 0)) (lsE h n tg sh mv rs .un .un .un .un .un .un) = some (decide (rs.length % rnd n sh = 0)) := (cEq_int (eMod_ok (i := rs.length) (j := rnd n sh) (eLen_rds (k := k) (rs := rs) rfl) rfl hp) rfl).trans (congrArg some (decide_eq_decide.mpr (by omega)))
    by_cases h0 : 0 < rs.length
    · rw [cAnd_t (a1.trans (congrArg some (decide_eq_true h0))) a2]
      exact congrArg some (decide_eq_decide.mpr ⟨fun z => ⟨h0, z⟩, fun z => z.2⟩)
    · rw [cAnd_f (a1.trans (congrArg some (decide_eq_false h0)))]
      exact congrArg some (decide_eq_false (fun z => h0 z.1)).symm
  unfold lookSigns
  by_cases h1 : 0 < rs.length ∧ rs.length % rnd n sh = 0
  · rw [if_pos h1]
    obtain ⟨q, hq⟩ : ∃ q, rs.length = q * rnd n sh := ⟨rs.length / rnd n sh, by rw [Nat.div_mul_cancel (Nat.dvd_of_mod_eq_zero h1.2)]⟩
    have hq1 : 1 ≤ q := by
      rcases Nat.eq_zero_or_pos q with z | z
      · rw [z, Nat.zero_mul] at hq; omega
      · exact z
    have hdiv : rs.length / rnd n sh = q := by rw [hq, Nat.mul_div_cancel _ hp]
    have hq2 : q ≤ 900 := by
      have : q * 1 ≤ q * rnd n sh := Nat.mul_le_mul_left q hp
      omega
    have hle : ∀ r, r < q → r * rnd n sh + rnd n sh ≤ rs.length := fun r hr => by
      rw [hq, ← Nat.succ_mul]
      exact Nat.mul_le_mul_right _ hr
    let rw' : Nat → D := fun r => .tup (rowD k rs (r * rnd n sh) (rnd n sh))
    have src : sRng3 (aCons (eD (.int 0)) (aCons (eB1 gLen (aCons (eVar 2) aNil)) (aCons (eVar 8) aNil))) (lsE h n tg sh mv rs .un .un .un .un .un .un) = some ((List.range q).map fun i => nI (i * rnd n sh)) := by
      rw [sRng3_at (b := rs.length) (c := rnd n sh) hp (by omega) (by omega) rfl (eLen_rds (k := k) (rs := rs) rfl) rfl, hq, stepN_full hq1 hp]
    have rows : eLc (sRng3 (aCons (eD (.int 0)) (aCons (eB1 gLen (aCons (eVar 2) aNil)) (aCons (eVar 8) aNil)))) (gN 14) cYes (eSl (eVar 2) (oSome (eVar 14)) (oSome (eAdd (eVar 14) (eVar 8)))) [14] (lsE h n tg sh mv rs .un .un .un .un .un .un) = some (.o ((List.range q).map rw')) := by
      have q0 := lc_all (elt := eSl (eVar 2) (oSome (eVar 14)) (oSome (eAdd (eVar 14) (eVar 8)))) (test := cYes) (gd := gN 14) (vs := [14]) (l := List.range q) (fun i => nI (i * rnd n sh)) (fun _ => true) rw' src (by rw [List.length_range]; omega) fun r hr => ⟨_, rfl, rfl, fun _ => ?_⟩
      · rw [List.filter_eq_self.mpr fun _ _ => rfl] at q0
        exact q0
      · have hr' := hle r (List.mem_range.mp hr)
        have e := eSl_ok (fa := eVar 2) (lo := oSome (eVar 14)) (hi := oSome (eAdd (eVar 14) (eVar 8))) (env := (wipeE (lsE h n tg sh mv rs .un .un .un .un .un .un) [14]).set 14 (.d (nI (r * rnd n sh)))) (xs := rs.map (encRd k)) rfl (oSome_ok (i := ((r * rnd n sh : Nat) : Int)) rfl) (oSome_ok (i := ((r * rnd n sh + rnd n sh : Nat) : Int)) (eAdd_ok (i := r * rnd n sh) (j := rnd n sh) rfl rfl))
        rw [cut_nn (by omega) (by omega), show r * rnd n sh + rnd n sh - r * rnd n sh = rnd n sh by omega] at e
        exact e
    have u3 := sAsg_o (i := 9) rows
    have mvd : ∀ r, r < q → F_moved_in_signs [.d (nI h), .d (sMan n tg sh mv), .d (rw' r)] = some (.o ((movedS h n tg sh rs (r * rnd n sh)).map nI)) := fun r hr => f_moved hh hn2 hs htg (ok.round (hle r hr)) (hle r hr)
    have hlast : (q - 1) * rnd n sh = rs.length - rnd n sh := by
      have : q * rnd n sh = (q - 1) * rnd n sh + rnd n sh := by rw [← Nat.succ_mul, Nat.succ_eq_add_one, Nat.sub_add_cancel hq1]
      omega
    have lastR : ∀ e : List Vl, eVar 9 e = some (.u ((List.range q).map rw')) ∨ eVar 9 e = some (.l ((List.range q).map rw')) → eIx (eVar 9) (eNeg (eD (.int 1))) e = some (.d (rw' (q - 1))) := fun e he => by
      have g : ((List.range q).map rw')[((List.range q).map rw').length - 1]? = some (rw' (q - 1)) := by
        rw [List.length_map, List.length_range, List.getElem?_map, List.getElem?_range (by omega)] <;> rfl
      rcases he with he | he
      · exact eIx_last he rfl rfl g
      · exact eIx_last he rfl rfl g
    have m1 := mvd (q - 1) (by omega)
    rw [hlast] at m1
    have hrd : rw' (q - 1) = .tup (rowD k rs (rs.length - rnd n sh) (rnd n sh)) := by show D.tup (rowD k rs ((q - 1) * rnd n sh) (rnd n sh)) = _; rw [hlast]
    have cutR : cutD (rowD k rs (rs.length - rnd n sh) (rnd n sh)) (some (-(n : Int))) none = (rs.map (encRd k)).drop (rs.length - n) := by
      have hlen := rowD_len (k := k) (rs := rs) (p := rs.length - rnd n sh) (l := rnd n sh) (by have := hle (q - 1) (by omega); omega)
      have hge : rnd n sh ≤ rs.length := by have := hle (q - 1) (by omega); omega
      rw [cut_neg (by omega) (by rw [hlen]; omega), hlen]
      unfold rowD
      rw [List.drop_take, List.drop_drop]
      have e1 : rs.length - rnd n sh + (rnd n sh - n) = rs.length - n := by omega
      rw [e1]
      exact List.take_of_length_le (by rw [List.length_drop, hx]; omega)
    have slc : ∀ e : List Vl, (eVar 9 e = some (.u ((List.range q).map rw')) ∨ eVar 9 e = some (.l ((List.range q).map rw'))) → eVar 4 e = some (.d (nI n)) → eSl (eIx (eVar 9) (eNeg (eD (.int 1)))) (oSome (eNeg (eVar 4))) oNone e = some (.d (.tup ((rs.map (encRd k)).drop (rs.length - n)))) := fun e he h4 => by
      have e0 := lastR e he
      rw [hrd] at e0
      have e1 := eSl_ok (lo := oSome (eNeg (eVar 4))) (hi := oNone) e0 (oSome_ok (i := -(n : Int)) (by unfold eNeg e1; rw [h4] <;> rfl)) rfl
      rw [cutR] at e1
      exact e1
    have hge : rnd n sh ≤ rs.length := by have := hle (q - 1) (by omega); omega
    have lastC : ∀ j, j < n → isS n rs (rs.length - n + j) := fun j hj => by
      refine ok _ (by omega) (.inl ?_)
      have e : (rs.length - n + j) % rnd n sh = shk n sh + n + j := by
        have : rs.length - n + j = (shk n sh + n + j) + rnd n sh * (q - 1) := by rw [Nat.mul_comm, hlast]; omega
        rw [this, Nat.add_mul_mod_self_left, Nat.mod_eq_of_lt (by omega)]
      rw [e]
      omega
    by_cases h2 : movedS h n tg sh rs (rs.length - rnd n sh) = []
    · rw [if_pos h2]
      have fv := f_vals (k := k) (show Kd.signs tg sh mv ≠ .once by intro z; cases z) (rs := rs) (p := rs.length - n) (n := n) (by omega) (by omega) (fun j hj => (lastC j hj).c)
      refine fnD_rt rfl (sSeq_nx u1 (sSeq_nx u2 (sSeq_rt (sIf_t (c1.trans (congrArg some (decide_eq_true h1))) (sSeq_nx u3 (sSeq_rt (sIf_t ?_ (sRet_d (eTup_ok (ds := [.str "told", tInts (valsAt n rs (rs.length - n))]) (aCons_ok rfl (aCons_ok (eCall_ok (n := 1) (F := F_values_of) (v := .d (tInts (valsAt n rs (rs.length - n)))) (vals := [.d (.tup ((rs.map (encRd k)).drop (rs.length - n)))]) (aCons_ok (slc _ (.inl rfl) rfl) aNil_ok) fv) aNil_ok)) rfl (by simp))))))))))
      refine (cEq_nil (ns := movedS h n tg sh rs (rs.length - rnd n sh)) ?_).trans (congrArg some (decide_eq_true h2))
      exact eCall_ok (v := .o ((movedS h n tg sh rs (rs.length - rnd n sh)).map nI)) (vals := [.d (nI h), .d (sMan n tg sh mv), .d (rw' (q - 1))]) (aCons_ok rfl (aCons_ok rfl (aCons_ok (lastR _ (.inl rfl)) aNil_ok))) m1
    · rw [if_neg h2]
      have ne : cEq (eCall 3 F_moved_in_signs (aCons (eVar 0) (aCons (eVar 1) (aCons (eIx (eVar 9) (eNeg (eD (.int 1)))) aNil)))) (eLst aNil) (lsE h n tg sh mv rs (.o ((List.range q).map rw')) .un .un .un .un .un) = some false := by
        refine (cEq_nil (ns := movedS h n tg sh rs (rs.length - rnd n sh)) ?_).trans (congrArg some (decide_eq_false h2))
        exact eCall_ok (v := .o ((movedS h n tg sh rs (rs.length - rnd n sh)).map nI)) (vals := [.d (nI h), .d (sMan n tg sh mv), .d (rw' (q - 1))]) (aCons_ok rfl (aCons_ok rfl (aCons_ok (lastR _ (.inl rfl)) aNil_ok))) m1
      let up : Nat → List Nat := fun i => (List.range i).flatMap fun r => movedS h n tg sh rs (r * rnd n sh)
      have upl : ∀ i, i ≤ q → (up i).length ≤ 900 := fun i hi => by
        have a1 := flat_len (fun r => movedS h n tg sh rs (r * rnd n sh)) (n := n) (fun r => movedS_len) i
        have a2 : i * n ≤ q * rnd n sh := Nat.mul_le_mul hi (by omega)
        show ((List.range i).flatMap fun r => movedS h n tg sh rs (r * rnd n sh)).length ≤ 900
        omega
      have loop := forM_inv (gd := gN 11) (body := sExt 10 (aCons (eCall 3 F_moved_in_signs (aCons (eVar 0) (aCons (eVar 1) (aCons (eVar 11) aNil)))) aNil)) (fun i env => ∃ x, env = lsE h n tg sh mv rs (.l ((List.range q).map rw')) (.o ((up i).map nI)) x .un .un .un) ((List.range q).map rw') 0 (lsE h n tg sh mv rs (.l ((List.range q).map rw')) (.o []) .un .un .un .un) ⟨_, rfl⟩ ?_
      · obtain ⟨e', g1, x, rfl⟩ := loop
        rw [Nat.zero_add, List.length_map, List.length_range] at g1
        have fo := f_often (l := up q) (n := n) (mv := mv) (fun j hj => by obtain ⟨r, _, hj⟩ := List.mem_flatMap.mp hj; exact mem_movedS hj) hn2 (Nat.le_trans (upl q (Nat.le_refl _)) (by omega))
        have as := sAsg_d (i := 12) (env := lsE h n tg sh mv rs (.l ((List.range q).map rw')) (.o ((up q).map nI)) x .un .un .un) (fa := eCall 2 F_seen_often (aCons (eVar 10) (aCons (eVar 7) aNil))) (eCall_ok (v := .d (encOpt (oft n (up q) mv))) (vals := [.u ((up q).map nI), .d (nI mv)]) rfl fo)
        rw [hdiv]
        show F_look_signs _ = some (.d (encStp k h (match oft n (up q) mv with | some j => _ | none => _)))
        have fv : sForV 9 (gN 11) (sExt 10 (aCons (eCall 3 F_moved_in_signs (aCons (eVar 0) (aCons (eVar 1) (aCons (eVar 11) aNil)))) aNil)) (lsE h n tg sh mv rs (.o ((List.range q).map rw')) (.o []) .un .un .un .un) = some (.nx (lsE h n tg sh mv rs (.l ((List.range q).map rw')) (.o ((up q).map nI)) x .un .un .un)) := g1
        cases ho : oft n (up q) mv with
        | none =>
          rw [ho] at as
          exact fnD_rt rfl (sSeq_nx u1 (sSeq_nx u2 (sSeq_nx (sIf_t (c1.trans (congrArg some (decide_eq_true h1))) (sSeq_nx u3 (sSeq_nx (sIf_f ne sNil_nx) (sSeq_nx (sAsg_o rfl) (sSeq_nx fv (sSeq_nx as (sIf_f rfl sNil_nx))))))) (ls_tail hh hn2 hs ok hl _ _ _ _ _ _))))
        | some j =>
          rw [ho] at as
          have hj := oft_lt ho
          refine fnD_rt rfl (sSeq_nx u1 (sSeq_nx u2 (sSeq_rt (sIf_t (c1.trans (congrArg some (decide_eq_true h1))) (sSeq_nx u3 (sSeq_nx (sIf_f ne sNil_nx) (sSeq_nx (sAsg_o rfl) (sSeq_nx fv (sSeq_nx as (sIf_t rfl (sRet_d (eTup_ok (ds := [.str "told", tInts (at_ rs (rs.length - n + j)).view]) (aCons_ok rfl (aCons_ok (eIx_at (j := 3) (eIx_at (j := j) (slc _ (.inr rfl) rfl) rfl rfl (drop_at (k := k) (lastC j hj).c)) rfl rfl rfl) aNil_ok)) rfl (by simp)))))))))))))
      · rintro i d env hi ⟨x, rfl⟩
        rw [Nat.zero_add]
        have hil : i < q := by
          have := (List.getElem?_eq_some_iff.mp hi).1
          simpa using this
        rw [List.getElem?_map, List.getElem?_range hil] at hi
        cases hi
        refine ⟨_, _, rfl, sExt_ok (xs := (up i).map nI) (ys := (movedS h n tg sh rs (i * rnd n sh)).map nI) rfl (aCons_ok (eCall_ok (v := .o ((movedS h n tg sh rs (i * rnd n sh)).map nI)) (vals := [.d (nI h), .d (sMan n tg sh mv), .d (rw' i)]) rfl (mvd i hil)) aNil_ok) rfl ?_, ?_⟩
        · rw [List.length_map, List.length_map]
          have := upl i (by omega)
          have : (movedS h n tg sh rs (i * rnd n sh)).length ≤ n := movedS_len
          omega
        · show ∃ x, _ = lsE h n tg sh mv rs (.l ((List.range q).map rw')) (.o (((List.range (i + 1)).flatMap fun r => movedS h n tg sh rs (r * rnd n sh)).map nI)) x .un .un .un
          rw [flat_succ, List.map_append]
          exact ⟨_, rfl⟩
  · rw [if_neg h1]
    exact fnD_rt rfl (sSeq_nx u1 (sSeq_nx u2 (sSeq_nx (sIf_f (c1.trans (congrArg some (decide_eq_false h1))) sNil_nx) (ls_tail hh hn2 hs ok hl _ _ _ _ _ _))))
end
end K98

/-! ## Spec9 -/
/-! Signs (9): the put; a step of any manner. -/
namespace K98
open PySem PySem.Spec PyProof.Rows L2
section
variable {h n tg sh mv many : Nat} {rs : List Rd} {ah : List D}
theorem sPut_ok {fe fi : List Vl → Option Vl} {env : List Vl} {i j : Nat} {xs : List D} {y : D} (h1 : fe env = some (.d y)) (h0 : env[i]? = some (.o xs)) (h2 : fi env = some (.d (.int (j : Int)))) (hj : j < xs.length) : sPut i fe fi env = some (.nx (env.set i (.o (xs.set j y)))) := by
  unfold sPut
  rw [h1, Option.bind_some, show datOf (.d y) = some y from rfl, Option.bind_some, h0]
  show (fi env).bind _ = _
  rw [h2, Option.bind_some, show intOf (.d (.int (j : Int))) = some (j : Int) from rfl, Option.bind_some]
  unfold ixN
  rw [if_pos (by omega), if_pos (by omega)] <;> rfl
theorem rep1 (x : D) : ∀ m : Nat, (List.replicate m [x]).flatten = List.replicate m x
  | 0 => rfl
  | m + 1 => by rw [List.replicate_succ, List.flatten_cons, rep1 x m, List.replicate_succ] <;> rfl
theorem eRep0 {fa fb : List Vl → Option Vl} {env : List Vl} {m : Nat} (h1 : fa env = some (.o [.int 0])) (h2 : fb env = some (.d (.int (m : Int)))) (hm : m ≤ 1000) : eRep fa fb env = some (.o (List.replicate m (.int 0))) := by
  unfold eRep
  rw [e2_ok h1 h2]
  unfold gRep
  rw [show lstOf (.o [.int 0]) = some [.int 0] from rfl, Option.bind_some, show intOf (.d (.int (m : Int))) = some (m : Int) from rfl, Option.bind_some, if_pos ⟨by omega, by omega, Nat.le_refl _⟩, Int.toNat_natCast]
  rw [rep1]
/-- the calls behind i signs -/
def callUp (h n : Nat) (rs : List Rd) (i : Nat) : List Int := (List.range n).map fun j => if j ∈ (others h n).take i then 1 - (rs.getD ((others h n).idxOf j) .n).B else 0
def isB (rs : List Rd) (i : Nat) : Prop := ∃ b, rs[i]? = some (.b b)
theorem callUp_succ {i j : Nat} (hj : (others h n)[i]? = some j) : callUp h n rs (i + 1) = (callUp h n rs i).set j (1 - (rs.getD i .n).B) := by
  have hjn := others_lt (List.mem_of_getElem? hj)
  have hil := (List.getElem?_eq_some_iff.mp hj).1
  have hix : (others h n).idxOf j = i := by
    have e := (List.getElem?_eq_some_iff.mp hj).2
    rw [← e]
    exact List.Nodup.idxOf_getElem (others_nodup h n) i hil
  have hmem : ∀ a, a ∈ (others h n).take (i + 1) ↔ a ∈ (others h n).take i ∨ a = j := fun a => by
    rw [List.take_add_one, hj, List.mem_append]
    simp
  unfold callUp
  apply List.ext_getElem?
  intro a
  rw [List.getElem?_map, List.getElem?_set]
  by_cases ha : a < n
  · rw [List.getElem?_range ha]
    by_cases e : j = a
    · subst e
      rw [if_pos rfl, if_pos (by rw [List.length_map, List.length_range]; exact ha)]
      show some (if j ∈ (others h n).take (i + 1) then _ else _) = _
      rw [if_pos ((hmem j).mpr (.inr rfl)), hix]
    · rw [if_neg e, List.getElem?_map, List.getElem?_range ha]
      show some (if a ∈ (others h n).take (i + 1) then _ else _) = some (if a ∈ (others h n).take i then _ else _)
      by_cases m : a ∈ (others h n).take i
      · rw [if_pos ((hmem a).mpr (.inl m)), if_pos m]
      · rw [if_neg (fun z => by rcases (hmem a).mp z with z | z; exact m z; exact e z.symm), if_neg m]
  · rw [List.getElem?_eq_none (by rw [List.length_range]; omega)]
    by_cases e : j = a
    · omega
    · rw [if_neg e, List.getElem?_map, List.getElem?_eq_none (by rw [List.length_range]; omega)] <;> rfl
theorem callUp_len {i : Nat} : (callUp h n rs i).length = n := by unfold callUp; rw [List.length_map, List.length_range]
/-- calls_of -/
theorem f_calls (hh : h < n) (hn2 : n ≤ 60) (hs : sh ≤ 1) (hl : rs.length = sh * (n - 1)) (hb : ∀ i, i < rs.length → isB rs i) : F_calls_of [.d (nI h), .d (sMan n tg sh mv), .d (encRds (.signs tg sh mv) rs)] = some (.d (tInts (callsOf h n sh rs))) := by
  let E : List Vl := [.d (nI h), .d (sMan n tg sh mv), .d (encRds (.signs tg sh mv) rs), .o (List.replicate n (.int 0)), .un, .un]
  have hol := others_len hh
  have ini : (List.replicate n (D.int 0)) = (callUp h n rs 0).map D.int := by
    unfold callUp
    rw [List.map_map]
    apply List.ext_getElem?
    intro a
    rw [List.getElem?_map, List.getElem?_replicate]
    by_cases ha : a < n
    · rw [if_pos ha, List.getElem?_range ha]
      show some (D.int 0) = some (D.int (if a ∈ (others h n).take 0 then _ else 0))
      rw [if_neg (by simp)]
    · rw [if_neg ha, List.getElem?_eq_none (by rw [List.length_range]; omega)] <;> rfl
  have src : sZip (aCons (eCall 2 F_others (aCons (eVar 0) (aCons (eIx (eVar 1) (eD (.int 1))) aNil))) (aCons (eVar 2) aNil)) E = some (zipD ((others h n).map nI) (rs.map (encRd (.signs tg sh mv)))) := by
    unfold sZip
    have q : eCall 2 F_others (aCons (eVar 0) (aCons (eIx (eVar 1) (eD (.int 1))) aNil)) E = some (.o ((others h n).map nI)) := eCall_ok (v := .o ((others h n).map nI)) (vals := [.d (nI h), .d (nI n)]) rfl (f_others h n (by omega))
    rw [aCons_ok q (aCons_ok (show eVar 2 E = some (.d (encRds (.signs tg sh mv) rs)) from rfl) aNil_ok)] <;> rfl
  have zl : (zipD ((others h n).map nI) (rs.map (encRd (.signs tg sh mv)))).length = sh * (n - 1) := by
    rw [zipD_len, List.length_map, List.length_map, hol, hl]
    rcases (show sh = 0 ∨ sh = 1 by omega) with e | e
    · subst e; omega
    · subst e; omega
  have loop := forM_inv (gd := gP [4, 5]) (body := sPut 3 (eSub (eD (.int 1)) (eVar 5)) (eVar 4)) (fun i env => ∃ a b, env = [.d (nI h), .d (sMan n tg sh mv), .d (encRds (.signs tg sh mv) rs), .o ((callUp h n rs i).map D.int), a, b]) (zipD ((others h n).map nI) (rs.map (encRd (.signs tg sh mv)))) 0 E ⟨.un, .un, by rw [← ini]⟩ ?_
  · obtain ⟨e', g1, a, b, rfl⟩ := loop
    rw [Nat.zero_add, zl] at g1
    have fo : sFor (sZip (aCons (eCall 2 F_others (aCons (eVar 0) (aCons (eIx (eVar 1) (eD (.int 1))) aNil))) (aCons (eVar 2) aNil))) (gP [4, 5]) (sPut 3 (eSub (eD (.int 1)) (eVar 5)) (eVar 4)) E = forM (gP [4, 5]) (sPut 3 (eSub (eD (.int 1)) (eVar 5)) (eVar 4)) (zipD ((others h n).map nI) (rs.map (encRd (.signs tg sh mv)))) E := by
      unfold sFor
      rw [src, Option.bind_some]
    have e0 : callUp h n rs (sh * (n - 1)) = callsOf h n sh rs := by
      unfold callUp callsOf
      apply List.map_congr_left
      intro j hj
      have hjn := List.mem_range.mp hj
      rcases (show sh = 0 ∨ sh = 1 by omega) with e | e
      · subst e
        rw [Nat.zero_mul, if_neg (by simp), if_neg (by omega)]
      · subst e
        rw [Nat.one_mul, List.take_of_length_le (by rw [hol]; exact Nat.le_refl _)]
        by_cases jh : j = h
        · subst jh
          rw [if_neg (by simp [others]), if_neg (by omega)]
        · rw [if_pos (by simp [others, jh, hjn]), if_pos ⟨rfl, jh⟩]
    rw [e0] at g1
    refine fnD_rt rfl (sSeq_nx (sAsg_o (eRep0 (m := n) rfl rfl (by omega))) (sSeq_nx (fo.trans g1) (sRet_d ?_)))
    exact (eB1_ok (h := gTupL) (a := .u ((callsOf h n sh rs).map D.int)) rfl).trans rfl
  · rintro i d env hi ⟨a, b, rfl⟩
    rw [Nat.zero_add]
    have hil : i < sh * (n - 1) := by
      have := (List.getElem?_eq_some_iff.mp hi).1
      rw [zl] at this
      exact this
    have hio : i < (others h n).length := by
      rw [hol]
      rcases (show sh = 0 ∨ sh = 1 by omega) with e | e
      · subst e; omega
      · subst e; omega
    have hj : (others h n)[i]? = some (others h n)[i] := List.getElem?_eq_getElem hio
    obtain ⟨v, hv⟩ := hb i (by omega)
    have hgv : (rs.getD i .n).B = v := by rw [List.getD_eq_getElem?_getD, hv] <;> rfl
    have hz := zipD_at (l := (others h n).map nI) (m := rs.map (encRd (.signs tg sh mv))) (i := i) (x := nI (others h n)[i]) (y := .int v) (by rw [List.getElem?_map, hj] <;> rfl) (by rw [List.getElem?_map, hv] <;> rfl)
    rw [hz] at hi
    cases hi
    rw [callUp_succ hj, hgv]
    refine ⟨_, _, rfl, sPut_ok (xs := (callUp h n rs i).map D.int) (y := .int (1 - v)) (j := (others h n)[i]) rfl rfl rfl ?_, ?_⟩
    · rw [List.length_map, callUp_len]
      exact others_lt (List.mem_of_getElem? hj)
    · rw [List.map_set]
      exact ⟨_, _, rfl⟩
/-- all kinds of a look's reads -/
def sFull (n sh : Nat) (rs : List Rd) : Prop := sOk n sh rs ∧ ∀ i, i < rs.length → i % rnd n sh < shk n sh → (i % rnd n sh) % 2 = 1 → rs[i]? = some .n
theorem sOk.take {m : Nat} (ok : sOk n sh rs) : sOk n sh (rs.take m) := fun i hi hc => by
  rw [List.length_take] at hi
  obtain ⟨c, e, q⟩ := ok i (by omega) hc
  exact ⟨c, by rw [List.getElem?_take_of_lt (by omega)]; exact e, q⟩
theorem lookSigns_cases : (∃ st, lookSigns h n tg sh mv rs = .told st) ∨ (∃ j, lookSigns h n tg sh mv rs = .rdO j) ∨ ∃ i j x, lookSigns h n tg sh mv rs = .wrS i j x := by
  have go : (∃ j, goOnS h n sh rs = .rdO j) ∨ ∃ i j x, goOnS h n sh rs = .wrS i j x := by
    unfold goOnS
    split
    · split
      · exact .inl ⟨_, rfl⟩
      · exact .inr ⟨_, _, _, rfl⟩
    · exact .inl ⟨_, rfl⟩
  unfold lookSigns
  split
  · split
    · exact .inl ⟨_, rfl⟩
    · split
      · exact .inl ⟨_, rfl⟩
      · exact .inr go
  · exact .inr go
abbrev sE (h n tg sh mv : Nat) (d : Deed) (ah : List D) (rs : List Rd) : List Vl := [.d (sMan n tg sh mv), .d (nI h), .d (encDeed h d), .d (.tup ah), .d (encRds (.signs tg sh mv) rs)]
theorem f_next_signs_look (hh : h < n) (hn2 : n ≤ 60) (hs : sh ≤ 1) (htg : tg ≤ 1) (ok : sOk n sh rs) (hl : rs.length ≤ 900) : F_next_signs (sE h n tg sh mv .look ah rs) = some (.d (encStp (.signs tg sh mv) h (lookSigns h n tg sh mv rs))) :=
  fnD_rt rfl (sSeq_nx (sUnp_ok (v := .d (sMan n tg sh mv)) (xs := [.str "signs", nI n, nI tg, nI sh, nI mv]) rfl rfl rfl) (sSeq_rt (sIf_t (cEq_s (a := "look") (b := "look") true rfl rfl) (sRet_d (eCall_ok (n := 3) (F := F_look_signs) (v := .d (encStp (.signs tg sh mv) h (lookSigns h n tg sh mv rs))) (vals := [.d (nI h), .d (sMan n tg sh mv), .d (encRds (.signs tg sh mv) rs)]) rfl (f_look_signs hh hn2 hs htg ok hl))))))
/-- the slots of next_signs behind its first lines -/
def nsE (h n tg sh mv : Nat) (d : Deed) (ah : List D) (rs : List Rd) (a b c : Vl) : List Vl :=
  [.d (sMan n tg sh mv), .d (nI h), .d (encDeed h d), .d (.tup ah), .d (encRds (.signs tg sh mv) rs), .d (.str "signs"), .d (nI n), .d (nI tg), .d (nI sh), .d (nI mv), .d (nI (sh * (n - 1))), a, b, c]
theorem drop_rds {k : Kd} {m : Nat} (hm : m ≤ rs.length) : cutD (rs.map (encRd k)) (some (m : Int)) none = (rs.drop m).map (encRd k) := by
  rw [cut_from (by rw [List.length_map]; exact hm), List.map_drop]
theorem f_next_signs_put {v : Int} (hh : h < n) (hn2 : n ≤ 60) (hs : sh ≤ 1) (htg : tg ≤ 1) (hb : ∀ i, i < rs.length → i < sh * (n - 1) → isB rs i) (ok : sFull n sh (rs.drop (sh * (n - 1)))) (hl : rs.length ≤ 900) (ha : ah[h]? = some (nI many)) :
    F_next_signs (sE h n tg sh mv (.put v) ah rs) = some (.d (encStp (.signs tg sh mv) h (putOf (.signs tg sh mv) n h v many rs))) := by
  have hol := others_len hh
  have hx : (rs.map (encRd (.signs tg sh mv))).length = rs.length := List.length_map _
  have hf : sh * (n - 1) ≤ n - 1 := by
    rcases (show sh = 0 ∨ sh = 1 by omega) with e | e
    · subst e; omega
    · subst e; omega
  have u1 : sUnp [5, 6, 7, 8, 9] (eVar 0) (sE h n tg sh mv (.put v) ah rs ++ List.replicate 9 .un) = some (.nx _) := sUnp_ok (v := .d (sMan n tg sh mv)) (xs := [.str "signs", nI n, nI tg, nI sh, nI mv]) rfl rfl rfl
  have c0 : cEq (eIx (eVar 2) (eD (.int 0))) (eD (.str "look")) (setAll [5, 6, 7, 8, 9] [.str "signs", nI n, nI tg, nI sh, nI mv] (sE h n tg sh mv (.put v) ah rs ++ List.replicate 9 .un)) = some false := cEq_s (a := "put") (b := "look") false rfl rfl
  have u2 : sAsg 10 (eMul (eVar 8) (eSub (eVar 6) (eD (.int 1)))) (setAll [5, 6, 7, 8, 9] [.str "signs", nI n, nI tg, nI sh, nI mv] (sE h n tg sh mv (.put v) ah rs ++ List.replicate 9 .un)) = some (.nx (nsE h n tg sh mv (.put v) ah rs .un .un .un)) :=
    sAsg_d (x := nI (sh * (n - 1))) (eMulN_ok (i := sh) (j := n - 1) rfl (eSub_ok (i := n) (j := 1) rfl rfl (by omega)) (by omega))
  have c1 : cLt (eB1 gLen (aCons (eVar 4) aNil)) (eVar 10) (nsE h n tg sh mv (.put v) ah rs .un .un .un) = some (decide (rs.length < sh * (n - 1))) := by
    rw [cLt_ok (i := ((rs.length : Nat) : Int)) (j := ((sh * (n - 1) : Nat) : Int)) (eLen_rds (k := .signs tg sh mv) (rs := rs) rfl) rfl]
    exact congrArg some (decide_eq_decide.mpr (by omega))
  by_cases h1 : rs.length < sh * (n - 1)
  · have e2 : putOf (.signs tg sh mv) n h v many rs = .rdS ((others h n).getD rs.length 0) h := by
      simp only [putOf, if_pos h1]
    have hj : (others h n)[rs.length]? = some ((others h n).getD rs.length 0) := by
      rw [List.getD_eq_getElem?_getD, List.getElem?_eq_getElem (by omega)] <;> rfl
    rw [e2]
    have q : eCall 2 F_others (aCons (eVar 1) (aCons (eVar 6) aNil)) (nsE h n tg sh mv (.put v) ah rs .un .un .un) = some (.o ((others h n).map nI)) := eCall_ok (v := .o ((others h n).map nI)) (vals := [.d (nI h), .d (nI n)]) rfl (f_others h n (by omega))
    refine fnD_rt rfl (sSeq_nx u1 (sSeq_nx (sIf_f c0 sNil_nx) (sSeq_nx u2 (sSeq_rt (sIf_t (c1.trans (congrArg some (decide_eq_true h1))) (sRet_d (eTup_ok (ds := [.str "read", kSgn ((others h n).getD rs.length 0) h]) (aCons_ok rfl (aCons_ok (eTup_ok (ds := [.str "sign", nI ((others h n).getD rs.length 0), nI h]) (aCons_ok rfl (aCons_ok (eIx_at (j := rs.length) q rfl (eLen_rds (k := .signs tg sh mv) (rs := rs) rfl) (by rw [List.getElem?_map, hj] <;> rfl)) (aCons_ok rfl aNil_ok))) rfl (by simp)) aNil_ok)) rfl (by simp))))))))
  · let rest := rs.drop (sh * (n - 1))
    have hrl : rest.length = rs.length - sh * (n - 1) := List.length_drop
    have look := f_look_signs (mv := mv) hh hn2 hs htg ok.1 (by rw [List.length_drop]; omega)
    have u3 : sAsg 11 (eSl (eVar 4) (oSome (eVar 10)) oNone) (nsE h n tg sh mv (.put v) ah rs .un .un .un) = some (.nx (nsE h n tg sh mv (.put v) ah rs (.d (encRds (.signs tg sh mv) rest)) .un .un)) := by
      have q := eSl_ok (fa := eVar 4) (lo := oSome (eVar 10)) (hi := oNone) (env := nsE h n tg sh mv (.put v) ah rs .un .un .un) (xs := rs.map (encRd (.signs tg sh mv))) rfl (oSome_ok (i := ((sh * (n - 1) : Nat) : Int)) rfl) rfl
      rw [drop_rds (by omega)] at q
      exact sAsg_d q
    have c2 : cAnd (cGt (eB1 gLen (aCons (eVar 11) aNil)) (eD (.int 0))) (cAnd (cIsN (eIx (eVar 11) (eNeg (eD (.int 1)))) (eD .non)) (cEq (eIx (eCall 3 F_look_signs (aCons (eVar 1) (aCons (eVar 0) (aCons (eSl (eVar 11) oNone (oSome (eNeg (eD (.int 1))))) aNil)))) (eD (.int 0))) (eD (.str "told")))) (nsE h n tg sh mv (.put v) ah rs (.d (encRds (.signs tg sh mv) rest)) .un .un) = some false := by
      by_cases h0 : 0 < rest.length
      · refine cAnd_t ((cGt_ok (eLen_rds (k := .signs tg sh mv) (rs := rest) rfl) rfl).trans (congrArg some (decide_eq_true (by omega)))) ?_
        have hxr : (rest.map (encRd (.signs tg sh mv))).length = rest.length := List.length_map _
        by_cases hn : (rest.length - 1) % rnd n sh < shk n sh ∧ ((rest.length - 1) % rnd n sh) % 2 = 1
        · have hlast := ok.2 (rest.length - 1) (by show rest.length - 1 < rest.length; omega) hn.1 hn.2
          have hlx : (rest.map (encRd (.signs tg sh mv)))[(rest.map (encRd (.signs tg sh mv))).length - 1]? = some .non := by
            rw [hxr, List.getElem?_map, hlast] <;> rfl
          have t1 : cIsN (eIx (eVar 11) (eNeg (eD (.int 1)))) (eD .non) (nsE h n tg sh mv (.put v) ah rs (.d (encRds (.signs tg sh mv) rest)) .un .un) = some true := by
            unfold cIsN
            rw [t2_ok (eIx_last (x := .non) (xs := rest.map (encRd (.signs tg sh mv))) rfl rfl rfl hlx) (show eD .non _ = some (.d .non) from rfl)] <;> rfl
          refine cAnd_t t1 ?_
          have lk := f_look_signs (mv := mv) hh hn2 hs htg (rs := rest.take (rest.length - 1)) ok.1.take (by rw [List.length_take]; omega)
          have htl : (rest.take (rest.length - 1)).length = rest.length - 1 := by rw [List.length_take]; omega
          have ew : ∃ i j x, lookSigns h n tg sh mv (rest.take (rest.length - 1)) = .wrS i j x := by
            unfold lookSigns
            rw [if_neg (by rw [htl]; omega)]
            unfold goOnS
            rw [htl, if_pos hn.1, if_neg (by omega)]
            exact ⟨_, _, _, rfl⟩
          obtain ⟨i, j, x, ew⟩ := ew
          rw [ew] at lk
          have sl := eSl_ok (fa := eVar 11) (lo := oNone) (hi := oSome (eNeg (eD (.int 1)))) (env := nsE h n tg sh mv (.put v) ah rs (.d (encRds (.signs tg sh mv) rest)) .un .un) (xs := rest.map (encRd (.signs tg sh mv))) rfl rfl (oSome_ok (i := -1) rfl)
          rw [cut_init, hxr, ← List.map_take] at sl
          exact cEq_s (a := "write") (b := "told") false (eIx_at (j := 0) (eCall_ok (n := 3) (F := F_look_signs) (v := .d (encStp (.signs tg sh mv) h (.wrS i j x))) (vals := [.d (nI h), .d (sMan n tg sh mv), .d (encRds (.signs tg sh mv) (rest.take (rest.length - 1)))]) (aCons_ok rfl (aCons_ok rfl (aCons_ok sl aNil_ok))) lk) rfl rfl rfl) rfl
        · have hc := ok.1 (rest.length - 1) (by show rest.length - 1 < rest.length; omega) (by omega)
          exact cAnd_f (cIsN_c (eIx_last (xs := rest.map (encRd (.signs tg sh mv))) rfl rfl rfl (by rw [hxr]; exact hc.c.enc _)) (isNon_encC (.signs tg sh mv) (at_ rest (rest.length - 1))))
      · exact cAnd_f ((cGt_ok (eLen_rds (k := .signs tg sh mv) (rs := rest) rfl) rfl).trans (congrArg some (decide_eq_false (by omega))))
    have u4 : sAsg 12 (eCall 3 F_look_signs (aCons (eVar 1) (aCons (eVar 0) (aCons (eVar 11) aNil)))) (nsE h n tg sh mv (.put v) ah rs (.d (encRds (.signs tg sh mv) rest)) .un .un) = some (.nx (nsE h n tg sh mv (.put v) ah rs (.d (encRds (.signs tg sh mv) rest)) (.d (encStp (.signs tg sh mv) h (lookSigns h n tg sh mv rest))) .un)) :=
      sAsg_d (eCall_ok (n := 3) (F := F_look_signs) (v := .d (encStp (.signs tg sh mv) h (lookSigns h n tg sh mv rest))) (vals := [.d (nI h), .d (sMan n tg sh mv), .d (encRds (.signs tg sh mv) rest)]) rfl look)
    have pre : ∀ r, (sSeq (sIf (cNe (eIx (eVar 12) (eD (.int 0))) (eD (.str "told"))) (sRet (eVar 12)) sNil) (sSeq (sAsg 13 (eMul (eVar 7) (eMod (eAdd (eIx (eVar 3) (eVar 1)) (eD (.int 1))) (eD (.int 2))))) (sRet (eTup (aCons (eD (.str "write")) (aCons (eTup (aCons (eD (.str "own")) (aCons (eVar 1) aNil))) (aCons (eTup (aCons (eIx (eVar 2) (eD (.int 2))) (aCons (eCall 3 F_calls_of (aCons (eVar 1) (aCons (eVar 0) (aCons (eSl (eVar 4) oNone (oSome (eVar 10))) aNil)))) (aCons (eVar 13) (aCons (eIx (eVar 12) (eD (.int 1))) aNil))))) aNil)))))))
        (nsE h n tg sh mv (.put v) ah rs (.d (encRds (.signs tg sh mv) rest)) (.d (encStp (.signs tg sh mv) h (lookSigns h n tg sh mv rest))) .un) = some (.rt r) → F_next_signs (sE h n tg sh mv (.put v) ah rs) = some r := fun r hr =>
      fnD_rt rfl (sSeq_nx u1 (sSeq_nx (sIf_f c0 sNil_nx) (sSeq_nx u2 (sSeq_nx (sIf_f (c1.trans (congrArg some (decide_eq_false h1))) sNil_nx) (sSeq_nx u3 (sSeq_nx (sIf_f c2 sNil_nx) (sSeq_nx u4 hr)))))))
    apply pre
    have e2 : putOf (.signs tg sh mv) n h v many rs = (match lookSigns h n tg sh mv rest with | .told st => .wrO ⟨v, 0, (tg : Int) * (((many : Int) + 1) % 2), callsOf h n sh (rs.take (sh * (n - 1))), st⟩ | s => s) := by
      simp only [putOf, if_neg h1] <;> rfl
    rw [e2]
    rcases lookSigns_cases (h := h) (n := n) (tg := tg) (sh := sh) (mv := mv) (rs := rest) with ⟨st, e⟩ | ⟨j, e⟩ | ⟨i, j, x, e⟩
    · rw [e]
      have fc := f_calls (tg := tg) (mv := mv) hh hn2 hs (rs := rs.take (sh * (n - 1))) (by rw [List.length_take]; omega) (fun i hi => by
        rw [List.length_take] at hi
        obtain ⟨b, eb⟩ := hb i (by omega) (by omega)
        exact ⟨b, by rw [List.getElem?_take_of_lt (by omega)]; exact eb⟩)
      have sl := eSl_ok (fa := eVar 4) (lo := oNone) (hi := oSome (eVar 10)) (env := nsE h n tg sh mv (.put v) ah rs (.d (encRds (.signs tg sh mv) rest)) (.d (encStp (.signs tg sh mv) h (.told st))) (.d (.int ((tg : Int) * (((many : Int) + 1) % 2))))) (xs := rs.map (encRd (.signs tg sh mv))) rfl rfl (oSome_ok (i := ((sh * (n - 1) : Nat) : Int)) rfl)
      rw [cut_to (by rw [hx]; omega), ← List.map_take] at sl
      have tgl : sAsg 13 (eMul (eVar 7) (eMod (eAdd (eIx (eVar 3) (eVar 1)) (eD (.int 1))) (eD (.int 2)))) (nsE h n tg sh mv (.put v) ah rs (.d (encRds (.signs tg sh mv) rest)) (.d (encStp (.signs tg sh mv) h (.told st))) .un) = some (.nx (nsE h n tg sh mv (.put v) ah rs (.d (encRds (.signs tg sh mv) rest)) (.d (encStp (.signs tg sh mv) h (.told st))) (.d (.int ((tg : Int) * (((many : Int) + 1) % 2)))))) :=
        sAsg_d (x := .int ((tg : Int) * (((many : Int) + 1) % 2))) (eMul_ok (i := (tg : Int)) (j := ((many : Int) + 1) % 2) rfl (eMod_ok (i := many + 1) (j := 2) (eAdd_ok (i := many) (j := 1) (eIx_at (j := h) rfl rfl rfl ha) rfl) rfl (by omega)) (by omega))
      exact sSeq_nx (sIf_f (cNe_s (a := "told") (b := "told") false rfl rfl) sNil_nx) (sSeq_nx tgl (sRet_d (eTup_ok (ds := [.str "write", kOwn h, .tup [.int v, tInts (callsOf h n sh (rs.take (sh * (n - 1)))), .int ((tg : Int) * (((many : Int) + 1) % 2)), tInts st]]) (aCons_ok rfl (aCons_ok rfl (aCons_ok (eTup_ok (ds := [.int v, tInts (callsOf h n sh (rs.take (sh * (n - 1)))), .int ((tg : Int) * (((many : Int) + 1) % 2)), tInts st]) (aCons_ok rfl (aCons_ok (eCall_ok (n := 3) (F := F_calls_of) (v := .d (tInts (callsOf h n sh (rs.take (sh * (n - 1)))))) (vals := [.d (nI h), .d (sMan n tg sh mv), .d (encRds (.signs tg sh mv) (rs.take (sh * (n - 1))))]) (aCons_ok rfl (aCons_ok rfl (aCons_ok sl aNil_ok))) fc) (aCons_ok rfl (aCons_ok rfl aNil_ok)))) rfl (by simp)) aNil_ok))) rfl (by simp))))
    · rw [e]
      exact sSeq_rt (sIf_t (cNe_s (a := "read") (b := "told") true rfl rfl) (sRet_d rfl))
    · rw [e]
      exact sSeq_rt (sIf_t (cNe_s (a := "write") (b := "told") true rfl rfl) (sRet_d rfl))
end
end K98

/-! ## Spec10 -/
/-! A step of any manner (10). -/
namespace K98
open PySem PySem.Spec PyProof.Rows L2
section
variable {h n tg sh mv many : Nat} {rs : List Rd} {ah : List D}
theorem f_next_signs_put1 {v : Int} {st : List Int} (hh : h < n) (hn2 : n ≤ 60) (hs : sh ≤ 1) (htg : tg ≤ 1) (ok : sFull n sh (rs.drop (sh * (n - 1)))) (hl : rs.length ≤ 900) (hf : sh * (n - 1) ≤ rs.length) (ht : lookSigns h n tg sh mv (rs.drop (sh * (n - 1))) = .told st) :
    F_next_signs (sE h n tg sh mv (.put v) ah (rs ++ [Rd.n])) = some (.d (encStp (.signs tg sh mv) h .fin)) := by
  have hlen : (rs ++ [Rd.n]).length = rs.length + 1 := by rw [List.length_append] <;> rfl
  have hx : ((rs ++ [Rd.n]).map (encRd (.signs tg sh mv))).length = rs.length + 1 := by rw [List.length_map, hlen]
  let rest := rs.drop (sh * (n - 1))
  have hrl : rest.length = rs.length - sh * (n - 1) := List.length_drop
  have hdr : (rs ++ [Rd.n]).drop (sh * (n - 1)) = rest ++ [Rd.n] := List.drop_append_of_le_length hf
  have u1 : sUnp [5, 6, 7, 8, 9] (eVar 0) (sE h n tg sh mv (.put v) ah (rs ++ [Rd.n]) ++ List.replicate 9 .un) = some (.nx _) := sUnp_ok (v := .d (sMan n tg sh mv)) (xs := [.str "signs", nI n, nI tg, nI sh, nI mv]) rfl rfl rfl
  have c0 : cEq (eIx (eVar 2) (eD (.int 0))) (eD (.str "look")) (setAll [5, 6, 7, 8, 9] [.str "signs", nI n, nI tg, nI sh, nI mv] (sE h n tg sh mv (.put v) ah (rs ++ [Rd.n]) ++ List.replicate 9 .un)) = some false := cEq_s (a := "put") (b := "look") false rfl rfl
  have u2 : sAsg 10 (eMul (eVar 8) (eSub (eVar 6) (eD (.int 1)))) (setAll [5, 6, 7, 8, 9] [.str "signs", nI n, nI tg, nI sh, nI mv] (sE h n tg sh mv (.put v) ah (rs ++ [Rd.n]) ++ List.replicate 9 .un)) = some (.nx (nsE h n tg sh mv (.put v) ah (rs ++ [Rd.n]) .un .un .un)) :=
    sAsg_d (x := nI (sh * (n - 1))) (eMulN_ok (i := sh) (j := n - 1) rfl (eSub_ok (i := n) (j := 1) rfl rfl (by omega)) (by omega))
  have c1 : cLt (eB1 gLen (aCons (eVar 4) aNil)) (eVar 10) (nsE h n tg sh mv (.put v) ah (rs ++ [Rd.n]) .un .un .un) = some false := by
    rw [cLt_ok (i := (((rs ++ [Rd.n]).length : Nat) : Int)) (j := ((sh * (n - 1) : Nat) : Int)) (eLen_rds (k := .signs tg sh mv) (rs := rs ++ [Rd.n]) rfl) rfl, hlen]
    exact congrArg some (decide_eq_false (by omega))
  have u3 : sAsg 11 (eSl (eVar 4) (oSome (eVar 10)) oNone) (nsE h n tg sh mv (.put v) ah (rs ++ [Rd.n]) .un .un .un) = some (.nx (nsE h n tg sh mv (.put v) ah (rs ++ [Rd.n]) (.d (encRds (.signs tg sh mv) (rest ++ [Rd.n]))) .un .un)) := by
    have q := eSl_ok (fa := eVar 4) (lo := oSome (eVar 10)) (hi := oNone) (env := nsE h n tg sh mv (.put v) ah (rs ++ [Rd.n]) .un .un .un) (xs := (rs ++ [Rd.n]).map (encRd (.signs tg sh mv))) rfl (oSome_ok (i := ((sh * (n - 1) : Nat) : Int)) rfl) rfl
    rw [drop_rds (by omega), hdr] at q
    exact sAsg_d q
  have hrl1 : (rest ++ [Rd.n]).length = rest.length + 1 := by rw [List.length_append] <;> rfl
  have hxr : ((rest ++ [Rd.n]).map (encRd (.signs tg sh mv))).length = rest.length + 1 := by rw [List.length_map, hrl1]
  have lk := f_look_signs (mv := mv) hh hn2 hs htg ok.1 (by rw [List.length_drop]; omega)
  rw [ht] at lk
  have sl := eSl_ok (fa := eVar 11) (lo := oNone) (hi := oSome (eNeg (eD (.int 1)))) (env := nsE h n tg sh mv (.put v) ah (rs ++ [Rd.n]) (.d (encRds (.signs tg sh mv) (rest ++ [Rd.n]))) .un .un) (xs := (rest ++ [Rd.n]).map (encRd (.signs tg sh mv))) rfl rfl (oSome_ok (i := -1) rfl)
  rw [cut_init, hxr, ← List.map_take, Nat.add_sub_cancel, List.take_left] at sl
  have c2 : cAnd (cGt (eB1 gLen (aCons (eVar 11) aNil)) (eD (.int 0))) (cAnd (cIsN (eIx (eVar 11) (eNeg (eD (.int 1)))) (eD .non)) (cEq (eIx (eCall 3 F_look_signs (aCons (eVar 1) (aCons (eVar 0) (aCons (eSl (eVar 11) oNone (oSome (eNeg (eD (.int 1))))) aNil)))) (eD (.int 0))) (eD (.str "told")))) (nsE h n tg sh mv (.put v) ah (rs ++ [Rd.n]) (.d (encRds (.signs tg sh mv) (rest ++ [Rd.n]))) .un .un) = some true := by
    refine cAnd_t ((cGt_ok (eLen_rds (k := .signs tg sh mv) (rs := rest ++ [Rd.n]) rfl) rfl).trans (congrArg some (decide_eq_true (by rw [hrl1]; omega)))) (cAnd_t ?_ ?_)
    · unfold cIsN
      rw [t2_ok (eIx_last (x := .non) (xs := (rest ++ [Rd.n]).map (encRd (.signs tg sh mv))) rfl rfl rfl ?_) (show eD .non _ = some (.d .non) from rfl)]
      · rfl
      · rw [hxr, Nat.add_sub_cancel, List.map_append, List.getElem?_append_right (by rw [List.length_map]; exact Nat.le_refl _), List.length_map, Nat.sub_self] <;> rfl
    · exact cEq_s (a := "told") (b := "told") true (eIx_at (j := 0) (eCall_ok (n := 3) (F := F_look_signs) (v := .d (encStp (.signs tg sh mv) h (.told st))) (vals := [.d (nI h), .d (sMan n tg sh mv), .d (encRds (.signs tg sh mv) rest)]) (aCons_ok rfl (aCons_ok rfl (aCons_ok sl aNil_ok))) lk) rfl rfl rfl) rfl
  exact fnD_rt rfl (sSeq_nx u1 (sSeq_nx (sIf_f c0 sNil_nx) (sSeq_nx u2 (sSeq_nx (sIf_f c1 sNil_nx) (sSeq_nx u3 (sSeq_rt (sIf_t c2 (sRet_d rfl))))))))
end

/-! ### a step of any manner -/
/-- the reads that a deed under way may have made -/
def RdsOk (k : Kd) (n : Nat) (d : Deed) (rs : List Rd) : Prop :=
  match k, d with
  | .once, .look => allC rs ∧ rs.length ≤ n
  | .once, .put _ => rs = []
  | .twice _, .look => allC rs
  | .twice _, .put _ => rs = []
  | .handed _ _, _ => allC rs
  | .signs _ sh _, .look => sFull n sh rs
  | .signs _ sh _, .put _ => (∀ i, i < rs.length → i < sh * (n - 1) → isB rs i) ∧ sFull n sh (rs.drop (sh * (n - 1)))
/-- bounds of a manner's numbers -/
def KdOk : Kd → Prop
  | .once => True
  | .twice t => t < 1000
  | .handed t _ => t < 1000
  | .signs tg sh _ => tg ≤ 1 ∧ sh ≤ 1
theorem kd_cEq {k : Kd} {n : Nat} {env : List Vl} (h : env[0]? = some (.d (encMan' n k))) (w : PySem.Str) (b : Bool) (hw : ∀ a : PySem.Str, (a = "once" ∧ k = .once) ∨ (a = "twice" ∧ ∃ t, k = .twice t) ∨ (a = "handed" ∧ ∃ t m, k = .handed t m) ∨ (a = "signs" ∧ ∃ x y z, k = .signs x y z) → (SeqAt.shaped (.str a) && SeqAt.shaped (.str w) && ((a == w) == b)) = true) :
    cEq (eIx (eVar 0) (eD (.int 0))) (eD (.str w)) env = some b := by
  have hv : eVar 0 env = some (.d (encMan' n k)) := by unfold eVar; rw [h]
  cases k with
  | once => exact cEq_s (a := "once") b (eIx_at (j := 0) hv rfl rfl rfl) rfl (hw _ (.inl ⟨rfl, rfl⟩))
  | twice t => exact cEq_s (a := "twice") b (eIx_at (j := 0) hv rfl rfl rfl) rfl (hw _ (.inr (.inl ⟨rfl, t, rfl⟩)))
  | handed t m => exact cEq_s (a := "handed") b (eIx_at (j := 0) hv rfl rfl rfl) rfl (hw _ (.inr (.inr (.inl ⟨rfl, t, m, rfl⟩))))
  | signs x y z => exact cEq_s (a := "signs") b (eIx_at (j := 0) hv rfl rfl rfl) rfl (hw _ (.inr (.inr (.inr ⟨rfl, x, y, z, rfl⟩))))
abbrev nE (k : Kd) (n h : Nat) (d : Deed) (ah : List D) (rs : List Rd) : List Vl := [.d (encMan' n k), .d (nI h), .d (encDeed h d), .d (.tup ah), .d (encRds k rs)]
theorem step_once {n h : Nat} {d : Deed} {ah : List D} {rs : List Rd} {x : D} (e : F_next_once [.d (encMan' n .once), .d (nI h), .d (encDeed h d), .d (encRds .once rs)] = some (.d x)) : F_next_step (nE .once n h d ah rs) = some (.d x) :=
  fnD_rt rfl (sSeq_rt (sIf_t (cEq_s (a := "once") (b := "once") true rfl rfl) (sRet_d (eCall_ok (n := 4) (F := F_next_once) (v := .d x) (vals := [.d (encMan' n .once), .d (nI h), .d (encDeed h d), .d (encRds .once rs)]) rfl e))))
theorem step_twice {t n h : Nat} {d : Deed} {ah : List D} {rs : List Rd} {x : D} (e : F_next_twice (nE (.twice t) n h d ah rs) = some (.d x)) : F_next_step (nE (.twice t) n h d ah rs) = some (.d x) :=
  fnD_rt rfl (sSeq_nx (sIf_f (cEq_s (a := "twice") (b := "once") false rfl rfl) sNil_nx) (sSeq_rt (sIf_t (cEq_s (a := "twice") (b := "twice") true rfl rfl) (sRet_d (eCall_ok (n := 5) (F := F_next_twice) (v := .d x) (vals := nE (.twice t) n h d ah rs) rfl e)))))
theorem step_handed {t m n h : Nat} {d : Deed} {ah : List D} {rs : List Rd} {x : D} (e : F_next_handed (nE (.handed t m) n h d ah rs) = some (.d x)) : F_next_step (nE (.handed t m) n h d ah rs) = some (.d x) :=
  fnD_rt rfl (sSeq_nx (sIf_f (cEq_s (a := "handed") (b := "once") false rfl rfl) sNil_nx) (sSeq_nx (sIf_f (cEq_s (a := "handed") (b := "twice") false rfl rfl) sNil_nx) (sSeq_rt (sIf_t (cEq_s (a := "handed") (b := "handed") true rfl rfl) (sRet_d (eCall_ok (n := 5) (F := F_next_handed) (v := .d x) (vals := nE (.handed t m) n h d ah rs) rfl e))))))
theorem step_signs {a b c n h : Nat} {d : Deed} {ah : List D} {rs : List Rd} {x : D} (e : F_next_signs (nE (.signs a b c) n h d ah rs) = some (.d x)) : F_next_step (nE (.signs a b c) n h d ah rs) = some (.d x) :=
  fnD_rt rfl (sSeq_nx (sIf_f (cEq_s (a := "signs") (b := "once") false rfl rfl) sNil_nx) (sSeq_nx (sIf_f (cEq_s (a := "signs") (b := "twice") false rfl rfl) sNil_nx) (sSeq_nx (sIf_f (cEq_s (a := "signs") (b := "handed") false rfl rfl) sNil_nx) (sSeq_rt (sIf_t (cEq_s (a := "signs") (b := "signs") true rfl rfl) (sRet_d (eCall_ok (n := 5) (F := F_next_signs) (v := .d x) (vals := nE (.signs a b c) n h d ah rs) rfl e)))))))
/-- the next step of a deed under way -/
theorem f_next {k : Kd} {n h many : Nat} {d : Deed} {ah : List D} {rs : List Rd} (hh : h < n) (hn2 : n ≤ 60) (kk : KdOk k) (ok : RdsOk k n d rs) (hl : rs.length ≤ 900) (ha : ah[h]? = some (nI many)) : F_next_step (nE k n h d ah rs) = some (.d (encStp k h (nextStep k n h d many rs))) := by
  cases k with
  | once =>
    cases d with
    | look => exact step_once (f_next_once_look ok.1 ok.2)
    | put v =>
      have e : rs = [] := ok
      subst e
      exact step_once (f_next_once_put (many := many))
  | twice t =>
    cases d with
    | look => exact step_twice (f_next_twice_look (by omega) hn2 ok hl)
    | put v =>
      have e : rs = [] := ok
      subst e
      exact step_twice (f_next_twice_put kk ha)
  | handed t m =>
    cases d with
    | look => exact step_handed (f_next_handed_look (by omega) hn2 ok hl)
    | put v => exact step_handed (f_next_handed_put (by omega) hn2 ok hl kk ha)
  | signs tg sh mv =>
    cases d with
    | look => exact step_signs (f_next_signs_look hh hn2 kk.2 kk.1 ok.1 hl)
    | put v => exact step_signs (f_next_signs_put hh hn2 kk.2 kk.1 ok.1 ok.2 hl ha)
/-- behind the write of a put -/
theorem f_next1 {k : Kd} {n h many : Nat} {d : Deed} {ah : List D} {rs : List Rd} {x : C} (hh : h < n) (hn2 : n ≤ 60) (kk : KdOk k) (ok : RdsOk k n d rs) (hl : rs.length ≤ 900) (hw : nextStep k n h d many rs = .wrO x) : F_next_step (nE k n h d ah (rs ++ [Rd.n])) = some (.d (encStp k h .fin)) := by
  cases d with
  | look => exact absurd hw (lookOf_not _ _ _ _ _)
  | put v =>
    cases k with
    | once =>
      have e : rs = [] := ok
      subst e
      exact step_once f_next_once_put1
    | twice t =>
      have e : rs = [] := ok
      subst e
      exact step_twice f_next_twice_put1
    | handed t m => exact step_handed f_next_handed_put1
    | signs tg sh mv =>
      have hw : putOf (.signs tg sh mv) n h v many rs = .wrO x := hw
      by_cases h1 : rs.length < sh * (n - 1)
      · simp only [putOf, if_pos h1] at hw
        cases hw
      · simp only [putOf, if_neg h1] at hw
        rcases lookSigns_cases (h := h) (n := n) (tg := tg) (sh := sh) (mv := mv) (rs := rs.drop (sh * (n - 1))) with ⟨st, e⟩ | ⟨j, e⟩ | ⟨i, j, y, e⟩
        · exact step_signs (f_next_signs_put1 hh hn2 kk.2 kk.1 ok.2 hl (by omega) e)
        · rw [e] at hw; cases hw
        · rw [e] at hw; cases hw
end K98

/-! ## Spec11 -/
/-! Jobs (11): next_deed, deeds_done, ahead_of. -/
namespace K98
open PySem PySem.Spec PyProof.Rows L2
def encItem : Option Int → D
  | none => .non
  | some i => .int i
def encItems (items : Items) : List D := items.map encItem
def encJob (items : Items) : D := .tup [.str "sums", .tup (encItems items)]
def encOD (h : Nat) : Option Deed → D
  | none => .non
  | some d => encDeed h d
theorem sumD_items : ∀ items : Items, sumD (encItems items) = some (items.filterMap id).sum
  | [] => rfl
  | none :: r => by
    show sumD (encItems r) = _
    rw [sumD_items r] <;> rfl
  | some i :: r => by
    show (sumD (encItems r)).map (fun s => i + s) = _
    rw [sumD_items r]
    simp
theorem deedD_is {h : Nat} {items : Items} {told : List D} (hl : told.length ≤ items.length) : deedD (h : Int) (encItems items) told = some (encOD h (deedAt items told.length)) := by
  have hx : (encItems items).length = items.length := List.length_map _
  unfold deedD deedAt
  rw [hx]
  by_cases e : told.length = items.length
  · rw [if_pos e, if_neg (by omega)] <;> rfl
  · rw [if_neg e, if_pos (by omega)]
    have hg : items[told.length]? = some (items.getD told.length none) := by
      rw [List.getD_eq_getElem?_getD, List.getElem?_eq_getElem (by omega)] <;> rfl
    have hg2 : (encItems items)[told.length]? = some (encItem (items.getD told.length none)) := by
      unfold encItems
      rw [List.getElem?_map, hg] <;> rfl
    rw [hg2, Option.bind_some]
    cases items.getD told.length none with
    | none => rfl
    | some i =>
      show (sumD ((encItems items).take (told.length + 1))).map _ = _
      have : (encItems items).take (told.length + 1) = encItems (items.take (told.length + 1)) := by
        unfold encItems
        rw [List.map_take]
      rw [this, sumD_items] <;> rfl
theorem f_deed {h : Nat} {items : Items} {told : List D} (hl : told.length ≤ items.length) (hi : items.length ≤ 1000) : F_next_deed [.d (nI h), .d (encJob items), .d (.tup told)] = some (.d (encOD h (deedAt items told.length))) := by
  have hx : (encItems items).length = items.length := List.length_map _
  show (if ("sums" : PySem.Str) = "sums" ∧ told.length ≤ (encItems items).length ∧ (encItems items).length ≤ 1000 then (deedD (h : Int) (encItems items) told).map Rt.d else none) = _
  rw [if_pos ⟨rfl, by omega, by omega⟩, deedD_is hl] <;> rfl

/-! ### the class's defs come to the same -/
theorem sRet_i {fa : List Vl → Option Vl} {env : List Vl} {C : Addr} {fs : List (PySem.Str × D)} (h : fa env = some (.i C fs)) : sRet fa env = some (.rt (.i C fs)) := by unfold sRet; rw [h] <;> rfl
def flds (h job told : D) : List (PySem.Str × D) := [("own", h), ("said", job), ("told", told)]
theorem look_own (a b c : D) : (flds a b c).lookup ("own" : PySem.Str) = some a := by
  unfold flds
  rw [List.lookup_cons, show (("own" : PySem.Str) == "own") = true by decide +kernel]
theorem look_said (a b c : D) : (flds a b c).lookup ("said" : PySem.Str) = some b := by
  unfold flds
  rw [List.lookup_cons, show (("said" : PySem.Str) == "own") = false by decide +kernel, List.lookup_cons, show (("said" : PySem.Str) == "said") = true by decide +kernel]
theorem look_told (a b c : D) : (flds a b c).lookup ("told" : PySem.Str) = some c := by
  unfold flds
  rw [List.lookup_cons, show (("told" : PySem.Str) == "own") = false by decide +kernel, List.lookup_cons, show (("told" : PySem.Str) == "said") = false by decide +kernel, List.lookup_cons, show (("told" : PySem.Str) == "told") = true by decide +kernel]
theorem look_no (a b c : D) {m : PySem.Str} (h : (m == "own") = false ∧ (m == "said") = false ∧ (m == "told") = false) : (flds a b c).lookup m = none := by
  unfold flds
  rw [List.lookup_cons, h.1, List.lookup_cons, h.2.1, List.lookup_cons, h.2.2] <;> rfl
theorem eFld_ok {C : Addr} {n : PySem.Str} {fa : List Vl → Option Vl} {env : List Vl} {fs : List (PySem.Str × D)} {d : D} (h1 : fa env = some (.i C fs)) (h2 : fs.lookup n = some d) : eFld C n fa env = some (.d d) := by
  unfold eFld e1
  rw [h1, Option.bind_some]
  show (if C = C then (fs.lookup n).map Vl.d else none) = _
  rw [if_pos rfl, h2] <;> rfl
theorem f_atjob {C : Addr} {h : Int} {items told : D} : F_at_job C [.d (.int h), .d (.tup [.str "sums", items]), .d told] = some (.i C (flds (.int h) (.tup [.str "sums", items]) told)) := by
  refine fnD_rt rfl (sSeq_nx (sIf_f (cEq_s (a := "sums") (b := "deeds") false rfl rfl) sNil_nx) (sSeq_rt (sIf_t (cEq_s (a := "sums") (b := "sums") true rfl rfl) (sRet_i rfl))))
theorem eMth_ok {C : Addr} {m : PySem.Str} {F : List Vl → Option Rt} {fa : List Vl → Option Vl} {env : List Vl} {fs : List (PySem.Str × D)} {r : Rt} (h1 : fa env = some (.i C fs)) (h2 : fs.lookup m = none) (h3 : F [.i C fs] = some r) : eMth C m F fa env = some r.v := by
  unfold eMth e1
  rw [h1, Option.bind_some]
  show (if C = C ∧ (fs.lookup m).isNone = true then (F [.i C fs]).map Rt.v else none) = _
  rw [if_pos ⟨rfl, by rw [h2] <;> rfl⟩, h3] <;> rfl
theorem sumD_ints : ∀ {l : List D} {s : Int}, sumD l = some s → ∃ ns, intsOf (l.filter fun d => !isNonD d) = some ns ∧ ns.sum = s
  | [], s, h => by cases h; exact ⟨[], rfl, rfl⟩
  | .non :: r, s, h => sumD_ints (l := r) h
  | .int i :: r, s, h => by
    obtain ⟨t, h1, h2⟩ := Option.map_eq_some_iff.mp (show (sumD r).map (fun s => i + s) = some s from h)
    obtain ⟨ns, q1, q2⟩ := sumD_ints h1
    refine ⟨i :: ns, ?_, by rw [List.sum_cons, q2]; exact h2⟩
    show (intsOf (r.filter fun d => !isNonD d)).map (fun l => i :: l) = _
    rw [q1] <;> rfl
  | .str _ :: _, _, h => by cases h
  | .tup _ :: _, _, h => by cases h
  | .tp _ :: _, _, h => by cases h
  | .tk _ :: _, _, h => by cases h
theorem f_sdeed {C : Addr} {h : Int} {items told : List D} {x : D} (hd : deedD h items told = some x) (hl : told.length ≤ items.length) (hi : items.length ≤ 1000) : F_Sums_deed C [.i C (flds (.int h) (.tup [.str "sums", .tup items]) (.tup told))] = some (.d x) := by
  let S := flds (.int h) (.tup [.str "sums", .tup items]) (.tup told)
  have s1 : sAsg 1 (eB1 gLen (aCons (eFld C "told" (eVar 0)) aNil)) [.i C S, .un, .un, .un] = some (.nx [.i C S, .d (nI told.length), .un, .un]) := sAsg_d (eLen_ok (eFld_ok rfl (look_told _ _ _)) rfl)
  have s2 : sAsg 2 (eIx (eFld C "said" (eVar 0)) (eD (.int 1))) [.i C S, .d (nI told.length), .un, .un] = some (.nx [.i C S, .d (nI told.length), .d (.tup items), .un]) := sAsg_d (eIx_at (j := 1) (eFld_ok rfl (look_said _ _ _)) rfl rfl rfl)
  have c1 : cEq (eVar 1) (eB1 gLen (aCons (eVar 2) aNil)) [.i C S, .d (nI told.length), .d (.tup items), .un] = some (decide (told.length = items.length)) := by
    rw [cEq_int (a := (told.length : Int)) (b := (items.length : Int)) rfl (eLen_ok rfl rfl)]
    exact congrArg some (decide_eq_decide.mpr (by omega))
  unfold deedD at hd
  by_cases e : told.length = items.length
  · rw [if_pos e] at hd
    cases hd
    exact fnD_rt rfl (sSeq_nx s1 (sSeq_nx s2 (sSeq_rt (sIf_t (c1.trans (congrArg some (decide_eq_true e))) (sRet_d rfl)))))
  · rw [if_neg e] at hd
    obtain ⟨d, hg, hd⟩ := Option.bind_eq_some_iff.mp hd
    have ix : eIx (eVar 2) (eVar 1) [.i C S, .d (nI told.length), .d (.tup items), .un] = some (.d d) := eIx_at (j := told.length) rfl rfl rfl hg
    by_cases hn : isNonD d = true
    · cases d with
      | non =>
        cases hd
        refine fnD_rt rfl (sSeq_nx s1 (sSeq_nx s2 (sSeq_nx (sIf_f (c1.trans (congrArg some (decide_eq_false e))) sNil_nx) (sSeq_rt (sIf_t ?_ (sRet_d rfl))))))
        unfold cIsN
        rw [t2_ok ix (show eD .non _ = some (.d .non) from rfl)] <;> rfl
      | int _ => cases hn
      | str _ => cases hn
      | tup _ => cases hn
      | tp _ => cases hn
      | tk _ => cases hn
    · have hd2 : (sumD (items.take (told.length + 1))).map (fun s => D.tup [.str "put", .int h, .int s]) = some x := by
        cases d with
        | non => exact absurd rfl hn
        | int _ => exact hd
        | str _ => exact hd
        | tup _ => exact hd
        | tp _ => exact hd
        | tk _ => exact hd
      obtain ⟨s, h1, h2⟩ := Option.map_eq_some_iff.mp hd2
      subst h2
      obtain ⟨ns, q1, q2⟩ := sumD_ints h1
      have cut : eSl (eVar 2) oNone (oSome (eAdd (eVar 1) (eD (.int 1)))) [.i C S, .d (nI told.length), .d (.tup items), .un] = some (.d (.tup (items.take (told.length + 1)))) := by
        have q := eSl_ok (fa := eVar 2) (lo := oNone) (hi := oSome (eAdd (eVar 1) (eD (.int 1)))) (env := [.i C S, .d (nI told.length), .d (.tup items), .un]) (xs := items) rfl rfl (oSome_ok (i := ((told.length + 1 : Nat) : Int)) (eAdd_ok (i := told.length) (j := 1) rfl rfl))
        rw [cut_to (by omega)] at q
        exact q
      have lc : eLc (sTup (eSl (eVar 2) oNone (oSome (eAdd (eVar 1) (eD (.int 1)))))) (gN 3) (cNotN (eVar 3) (eD .non)) (eVar 3) [3] [.i C S, .d (nI told.length), .d (.tup items), .un] = some (.o (((items.take (told.length + 1)).filter fun d => !isNonD d).map id)) := by
        refine lc_all (l := items.take (told.length + 1)) id (fun d => !isNonD d) id ?_ (by rw [List.length_take]; omega) fun a ha => ⟨_, rfl, ?_, fun _ => rfl⟩
        · unfold sTup
          rw [cut, List.map_id] <;> rfl
        · unfold cNotN
          rw [t2_ok (show eVar 3 _ = some (.d a) from rfl) (show eD .non _ = some (.d .non) from rfl)]
          show some (isNonD a == false) = some (!isNonD a)
          cases isNonD a <;> rfl
      have sm : eB1 gSum (aCons (eLc (sTup (eSl (eVar 2) oNone (oSome (eAdd (eVar 1) (eD (.int 1)))))) (gN 3) (cNotN (eVar 3) (eD .non)) (eVar 3) [3]) aNil) [.i C S, .d (nI told.length), .d (.tup items), .un] = some (.d (.int s)) := by
        rw [eB1_ok lc, List.map_id]
        unfold gSum
        rw [show seqOf (.o ((items.take (told.length + 1)).filter fun d => !isNonD d)) = some ((items.take (told.length + 1)).filter fun d => !isNonD d) from rfl, Option.bind_some, q1, ← q2] <;> rfl
      refine fnD_rt rfl (sSeq_nx s1 (sSeq_nx s2 (sSeq_nx (sIf_f (c1.trans (congrArg some (decide_eq_false e))) sNil_nx) (sSeq_nx (sIf_f (cIsN_c ix (by simpa using hn)) sNil_nx) (sRet_d (eTup_ok (ds := [.str "put", .int h, .int s]) (aCons_ok rfl (aCons_ok (eFld_ok rfl (look_own _ _ _)) (aCons_ok sm aNil_ok))) rfl (by simp)))))))
/-- the def of the text does what F_next_deed says -/
theorem f_deedC {C : Addr} {as : List Vl} {r : Rt} (h : F_next_deed as = some r) : F_next_deedC C as = some r := by
  unfold F_next_deed at h
  split at h
  · rename_i hn w items told
    split at h
    · rename_i hc
      obtain ⟨x, h1, h2⟩ := Option.map_eq_some_iff.mp h
      subst h2
      obtain ⟨rfl, hl, hi⟩ := hc
      exact fnD_rt rfl (sRet_d (eMth_ok (F := F_Sums_deed C) (r := .d x) (eCall_ok (n := 3) (F := F_at_job C) (v := .i C (flds (.int hn) (.tup [.str "sums", .tup items]) (.tup told))) (vals := [.d (.int hn), .d (.tup [.str "sums", .tup items]), .d (.tup told)]) rfl f_atjob) (look_no _ _ _ (by decide +kernel)) (f_sdeed h1 hl hi)))
    · cases h
  · cases h
end K98

/-! ## Spec12 -/
/-! Jobs (12): deeds_done, ahead_of; manners' numbers. -/
namespace K98
open PySem PySem.Spec PyProof.Rows L2
theorem kd_shared (a : PySem.Str) (k : Kd) (h : (a = "once" ∧ k = .once) ∨ (a = "twice" ∧ ∃ t, k = .twice t) ∨ (a = "handed" ∧ ∃ t m, k = .handed t m) ∨ (a = "signs" ∧ ∃ x y z, k = .signs x y z)) : (SeqAt.shaped (.str a) && SeqAt.shaped (.str "shared") && ((a == "shared") == false)) = true := by
  rcases h with ⟨rfl, _⟩ | ⟨rfl, _⟩ | ⟨rfl, _⟩ | ⟨rfl, _⟩ <;> decide +kernel
theorem kd_tables (a : PySem.Str) (k : Kd) (h : (a = "once" ∧ k = .once) ∨ (a = "twice" ∧ ∃ t, k = .twice t) ∨ (a = "handed" ∧ ∃ t m, k = .handed t m) ∨ (a = "signs" ∧ ∃ x y z, k = .signs x y z)) : (SeqAt.shaped (.str a) && SeqAt.shaped (.str "tables") && ((a == "tables") == false)) = true := by
  rcases h with ⟨rfl, _⟩ | ⟨rfl, _⟩ | ⟨rfl, _⟩ | ⟨rfl, _⟩ <;> decide +kernel
theorem c_shared {k : Kd} {n : Nat} {env : List Vl} (h : env[0]? = some (.d (encMan' n k))) : cEq (eIx (eVar 0) (eD (.int 0))) (eD (.str "shared")) env = some false := kd_cEq h "shared" false fun a ha => kd_shared a k ha
theorem c_tables {k : Kd} {n : Nat} {env : List Vl} (h : env[0]? = some (.d (encMan' n k))) : cEq (eIx (eVar 0) (eD (.int 0))) (eD (.str "tables")) env = some false := kd_cEq h "tables" false fun a ha => kd_tables a k ha
theorem man1 {k : Kd} {n i : Nat} {env : List Vl} (h : env[i]? = some (.d (encMan' n k))) : eIx (eVar i) (eD (.int 1)) env = some (.d (nI n)) := by
  have hv : eVar i env = some (.d (encMan' n k)) := by unfold eVar; rw [h]
  cases k <;> exact eIx_at (j := 1) hv rfl rfl rfl
theorem f_places (k : Kd) (n : Nat) : F_places_of [.d (encMan' n k)] = some (.d (nI n)) := fnD_rt rfl (sSeq_nx (sIf_f (c_shared (k := k) (n := n) rfl) sNil_nx) (sRet_d (man1 (k := k) rfl)))
theorem f_hands (k : Kd) (n : Nat) : F_hands_of [.d (encMan' n k)] = some (.d (nI n)) := fnD_rt rfl (sRet_d (man1 (k := k) rfl))
theorem f_done {h : Nat} {items : Items} {told : List D} (hl : told.length ≤ items.length) (hi : items.length ≤ 1000) : F_deeds_done [.d (nI h), .d (encJob items), .d (.tup told)] = some (.o ((List.range told.length).map fun k => encOD h (deedAt items k))) := by
  have e := lc_rng (fa := eB1 gLen (aCons (eVar 2) aNil)) (test := cYes) (elt := eCall 3 F_next_deed (aCons (eVar 0) (aCons (eVar 1) (aCons (eSl (eVar 2) oNone (oSome (eVar 3))) aNil)))) (i := 3) (vs := [3]) (env := [.d (nI h), .d (encJob items), .d (.tup told), .un]) (n := told.length) (fun _ => true) (fun k => encOD h (deedAt items k)) (by omega) (eLen_ok rfl rfl) fun j hj => ⟨rfl, fun _ => ?_⟩
  · rw [List.filter_eq_self.mpr fun _ _ => rfl] at e
    exact fnD_rt rfl (sRet_o e)
  · have sl := eSl_ok (fa := eVar 2) (lo := oNone) (hi := oSome (eVar 3)) (env := (wipeE [.d (nI h), .d (encJob items), .d (.tup told), .un] [3]).set 3 (.d (.int (j : Int)))) (xs := told) rfl rfl (oSome_ok (i := (j : Int)) rfl)
    rw [cut_to (by omega)] at sl
    have fd := f_deed (h := h) (items := items) (told := told.take j) (by rw [List.length_take]; omega) hi
    rw [show (told.take j).length = j by rw [List.length_take]; omega] at fd
    exact eCall_ok (v := .d (encOD h (deedAt items j))) (vals := [.d (nI h), .d (encJob items), .d (.tup (told.take j))]) (aCons_ok rfl (aCons_ok rfl (aCons_ok sl aNil_ok))) fd
def cntD (n h m : Nat) : List D := (List.range n).map fun j => if j = h then nI m else nI 0
theorem cntD_at {n h m : Nat} (hh : h < n) : (cntD n h m)[h]? = some (nI m) := by
  unfold cntD
  rw [List.getElem?_map, List.getElem?_range hh]
  show some (if h = h then nI m else nI 0) = _
  rw [if_pos rfl]
theorem cntD_set {n h m : Nat} {x : Nat} : (cntD n h m).set h (nI x) = cntD n h x := by
  unfold cntD
  apply List.ext_getElem?
  intro a
  rw [List.getElem?_set, List.getElem?_map]
  by_cases e : h = a
  · subst e
    rw [if_pos rfl, List.length_map, List.length_range]
    by_cases ha : h < n
    · rw [if_pos ha, List.getElem?_map, List.getElem?_range ha]
      show _ = some (if h = h then nI x else nI 0)
      rw [if_pos rfl]
    · rw [if_neg ha, List.getElem?_eq_none (by rw [List.length_map, List.length_range]; omega)]
  · rw [if_neg e, List.getElem?_map]
    by_cases ha : a < n
    · rw [List.getElem?_range ha]
      show some (if a = h then _ else _) = some (if a = h then _ else _)
      rw [if_neg (fun z => e z.symm), if_neg (fun z => e z.symm)]
    · rw [List.getElem?_eq_none (by rw [List.length_range]; omega)] <;> rfl
theorem sInc_ok {fi fe : List Vl → Option Vl} {env : List Vl} {i j m : Nat} {xs : List D} (h0 : env[i]? = some (.o xs)) (h1 : fi env = some (.d (.int (j : Int)))) (h2 : xs[j]? = some (nI m)) (h3 : fe env = some (.d (.int 1))) : sInc i fi fe env = some (.nx (env.set i (.o (xs.set j (nI (m + 1)))))) := by
  unfold sInc
  rw [h0]
  show (fi env).bind _ = _
  rw [h1, Option.bind_some, show intOf (.d (.int (j : Int))) = some (j : Int) from rfl, Option.bind_some, if_pos (by omega), Int.toNat_natCast, h2, Option.bind_some, show intOf (.d (nI m)) = some (m : Int) from rfl, Option.bind_some, h3, Option.bind_some, show intOf (.d (.int 1)) = some 1 from rfl, Option.bind_some]
  rfl
theorem f_ahead {k : Kd} {n h : Nat} {items : Items} {told : List D} (hh : h < n) (hn2 : n ≤ 60) (hl : told.length ≤ items.length) (hi : items.length ≤ 1000) : F_ahead_of [.d (encMan' n k), .d (nI h), .d (encJob items), .d (.tup told)] = some (.d (.tup (cntD n h (manyAt items told.length)))) := by
  let E : List Vl := [.d (encMan' n k), .d (nI h), .d (encJob items), .d (.tup told), .o (cntD n h 0), .un]
  have ini : List.replicate n (D.int 0) = cntD n h 0 := by
    unfold cntD
    apply List.ext_getElem?
    intro a
    rw [List.getElem?_replicate, List.getElem?_map]
    by_cases ha : a < n
    · rw [if_pos ha, List.getElem?_range ha]
      show some (D.int 0) = some (if a = h then nI 0 else nI 0)
      rw [ite_self] <;> rfl
    · rw [if_neg ha, List.getElem?_eq_none (by rw [List.length_range]; omega)] <;> rfl
  have a1 : sAsg 4 (eRep (eLst (aCons (eD (.int 0)) aNil)) (eCall 1 F_places_of (aCons (eVar 0) aNil))) [.d (encMan' n k), .d (nI h), .d (encJob items), .d (.tup told), .un, .un] = some (.nx E) := by
    have q := sAsg_o (i := 4) (eRep0 (fa := eLst (aCons (eD (.int 0)) aNil)) (fb := eCall 1 F_places_of (aCons (eVar 0) aNil)) (env := [.d (encMan' n k), .d (nI h), .d (encJob items), .d (.tup told), .un, .un]) (m := n) rfl (eCall_ok (n := 1) (F := F_places_of) (v := .d (nI n)) (vals := [.d (encMan' n k)]) rfl (f_places k n)) (by omega))
    rw [ini] at q
    exact q
  let body : List Vl → Option Out := sIf (cEq (eIx (eVar 5) (eD (.int 0))) (eD (.str "put"))) (sInc 4 (eIx (eVar 5) (eD (.int 1))) (eD (.int 1))) sNil
  have loop := forM_inv (gd := gN 5) (body := body) (fun i env => ∃ x, env = [.d (encMan' n k), .d (nI h), .d (encJob items), .d (.tup told), .o (cntD n h (manyAt items i)), x]) ((List.range told.length).map fun k => encOD h (deedAt items k)) 0 E ⟨.un, rfl⟩ ?_
  · obtain ⟨e', g1, x, rfl⟩ := loop
    rw [Nat.zero_add, List.length_map, List.length_range] at g1
    have fo : sFor (sOwn (eCall 3 F_deeds_done (aCons (eVar 1) (aCons (eVar 2) (aCons (eVar 3) aNil))))) (gN 5) body E = forM (gN 5) body ((List.range told.length).map fun k => encOD h (deedAt items k)) E := by
      have q : eCall 3 F_deeds_done (aCons (eVar 1) (aCons (eVar 2) (aCons (eVar 3) aNil))) E = some (.o ((List.range told.length).map fun k => encOD h (deedAt items k))) := eCall_ok (v := .o ((List.range told.length).map fun k => encOD h (deedAt items k))) (vals := [.d (nI h), .d (encJob items), .d (.tup told)]) rfl (f_done hl hi)
      unfold sFor sOwn
      rw [q] <;> rfl
    exact fnD_rt rfl (sSeq_nx a1 (sSeq_nx (fo.trans g1) (sRet_d ((eB1_ok (h := gTupL) (a := .u (cntD n h (manyAt items told.length))) rfl).trans rfl))))
  · rintro j d env hj ⟨x, rfl⟩
    rw [Nat.zero_add]
    have hjl : j < told.length := by
      have := (List.getElem?_eq_some_iff.mp hj).1
      simpa using this
    rw [List.getElem?_map, List.getElem?_range hjl] at hj
    cases hj
    cases hd : deedAt items j with
    | none =>
      exfalso
      unfold deedAt at hd
      rw [if_pos (by omega)] at hd
      split at hd <;> cases hd
    | some dd =>
      cases dd with
      | look =>
        have e := manyAt_succ_look (deedAt_look hd)
        refine ⟨_, _, rfl, sIf_f (cEq_s (a := "look") (b := "put") false (eIx_at (j := 0) (v := .d (.tk [.str "look"])) ?_ rfl rfl rfl) rfl) sNil_nx, ?_⟩
        · show eVar 5 [_, _, _, _, _, .d (encOD h (deedAt items j))] = _
          rw [hd] <;> rfl
        · exact ⟨_, by rw [e] <;> rfl⟩
      | put v =>
        obtain ⟨i', hi', _⟩ := deedAt_put hd
        have e := manyAt_succ_put hi'
        refine ⟨_, _, rfl, sIf_t (cEq_s (a := "put") (b := "put") true (eIx_at (j := 0) (v := .d (encDeed h (.put v))) ?_ rfl rfl rfl) rfl) (sInc_ok (xs := cntD n h (manyAt items j)) (j := h) (m := manyAt items j) rfl (eIx_at (j := 1) (v := .d (encDeed h (.put v))) ?_ rfl rfl rfl) (cntD_at hh) rfl), ?_⟩
        · show eVar 5 [_, _, _, _, _, .d (encOD h (deedAt items j))] = _
          rw [hd] <;> rfl
        · show eVar 5 [_, _, _, _, _, .d (encOD h (deedAt items j))] = _
          rw [hd] <;> rfl
        · rw [cntD_set, e]
          exact ⟨_, rfl⟩
end K98

/-! ## Spec13 -/
/-! Rooms (13): boxes, states. -/
namespace K98
open PySem PySem.Spec PyProof.Rows L2
abbrev BK := Sum Nat (Nat × Nat)
def prs (n : Nat) : List (Nat × Nat) := (List.range n).flatMap fun i => ((List.range n).filter fun j => j != i).map fun j => (i, j)
def bkeys (s : Bool) (n : Nat) : List BK := (List.range n).map .inl ++ (if s then (prs n).map .inr else [])
def hasS : Kd → Bool
  | .signs _ sh _ => decide (sh = 1)
  | _ => false
def keyD : BK → D
  | .inl j => kOwn j
  | .inr (i, j) => kSgn i j
def keyK : BK → List Key
  | .inl j => [.inr "own", .inl (j : Int)]
  | .inr (i, j) => [.inr "sign", .inl (i : Int), .inl (j : Int)]
def contD (k : Kd) (r : Rm) : BK → D
  | .inl j => encC k (r.own j)
  | .inr (i, j) => .int (r.sgn i j)
def boxesD (k : Kd) (n : Nat) (r : Rm) : List D := (bkeys (hasS k) n).map fun b => .tup [keyD b, contD k r b]
theorem keyK_inj : ∀ {a b : BK}, keyK a = keyK b → a = b
  | .inl i, .inl j, h => by
    simp only [keyK, List.cons.injEq, Sum.inl.injEq, and_true, true_and] at h
    congr 1
    omega
  | .inl _, .inr (_, _), h => by simp [keyK] at h
  | .inr (_, _), .inl _, h => by simp [keyK] at h
  | .inr (a, b), .inr (c, d), h => by
    simp only [keyK, List.cons.injEq, Sum.inl.injEq, and_true, true_and] at h
    have h1 : a = c := by omega
    have h2 : b = d := by omega
    rw [h1, h2]
theorem keyT_D (b : BK) : keyT (keyD b) = some (keyK b) := by cases b <;> rfl
theorem prsD (k : Kd) (r : Rm) : ∀ l : List BK, pairsD (l.map fun b => .tup [keyD b, contD k r b]) = some (l.map fun b => (keyK b, contD k r b))
  | [] => rfl
  | b :: l => by
    show ((keyT (keyD b)).map fun k' => (k', contD k r b)).bind (fun x => (pairsD (l.map fun b => .tup [keyD b, contD k r b])).map fun l => x :: l) = _
    rw [keyT_D, prsD k r l] <;> rfl
theorem valD_at {c : BK → D} : ∀ {l : List BK} {b : BK}, b ∈ l → valD (l.map fun b => (keyK b, c b)) (keyK b) = some (c b)
  | [], _, h => by cases h
  | a :: l, b, h => by
    unfold valD
    rw [List.map_cons, List.find?_cons]
    by_cases e : a = b
    · subst e
      simp
    · have : ¬ keyK a = keyK b := fun z => e (keyK_inj z)
      simp only [this, decide_false]
      refine valD_at (l := l) ?_
      rcases List.mem_cons.mp h with z | z
      · exact absurd z.symm e
      · exact z
theorem nodupK (s : Bool) {n : Nat} (hn : n ≤ 5) : nodupB ((bkeys s n).map keyK) = true := by
  rcases (show n = 0 ∨ n = 1 ∨ n = 2 ∨ n = 3 ∨ n = 4 ∨ n = 5 by omega) with rfl | rfl | rfl | rfl | rfl | rfl <;> cases s <;> decide +kernel
theorem riseK (s : Bool) {n : Nat} (hn : n ≤ 5) : riseB ((bkeys s n).map keyK) = true := by
  rcases (show n = 0 ∨ n = 1 ∨ n = 2 ∨ n = 3 ∨ n = 4 ∨ n = 5 by omega) with rfl | rfl | rfl | rfl | rfl | rfl <;> cases s <;> decide +kernel
theorem bkeys_len (s : Bool) {n : Nat} (hn : n ≤ 5) : (bkeys s n).length ≤ 900 := by
  rcases (show n = 0 ∨ n = 1 ∨ n = 2 ∨ n = 3 ∨ n = 4 ∨ n = 5 by omega) with rfl | rfl | rfl | rfl | rfl | rfl <;> cases s <;> decide +kernel
theorem mem_prs {n i j : Nat} : (i, j) ∈ prs n ↔ i < n ∧ j < n ∧ j ≠ i := by
  unfold prs
  rw [List.mem_flatMap]
  constructor
  · rintro ⟨a, ha, h⟩
    obtain ⟨b, hb, e⟩ := List.mem_map.mp h
    cases e
    have := List.mem_filter.mp hb
    exact ⟨List.mem_range.mp ha, List.mem_range.mp this.1, by simpa using this.2⟩
  · rintro ⟨h1, h2, h3⟩
    exact ⟨i, List.mem_range.mpr h1, List.mem_map.mpr ⟨j, List.mem_filter.mpr ⟨List.mem_range.mpr h2, by simpa using h3⟩, rfl⟩⟩
theorem mem_own {s : Bool} {n j : Nat} (h : j < n) : (.inl j : BK) ∈ bkeys s n := List.mem_append_left _ (List.mem_map_of_mem (List.mem_range.mpr h))
theorem mem_sgn {n i j : Nat} (h1 : i < n) (h2 : j < n) (h3 : j ≠ i) : (.inr (i, j) : BK) ∈ bkeys true n := List.mem_append_right _ (List.mem_map_of_mem (mem_prs.mpr ⟨h1, h2, h3⟩))
section
variable {k : Kd} {n h : Nat} {r : Rm}
theorem dict_ok {fa : List Vl → Option Vl} {env : List Vl} (hn : n ≤ 5) (h1 : fa env = some (.d (.tp (boxesD k n r)))) : eB1 gDict (aCons fa aNil) env = some (.m ((bkeys (hasS k) n).map fun b => (keyK b, contD k r b))) := by
  rw [eB1_ok h1]
  unfold gDict
  rw [show tpOf (.d (.tp (boxesD k n r))) = some (boxesD k n r) from rfl, Option.bind_some]
  have c : nodupB (((bkeys (hasS k) n).map fun b => (keyK b, contD k r b)).map (·.1)) = true ∧ (boxesD k n r).length ≤ 1000 := by
    refine ⟨?_, ?_⟩
    · rw [List.map_map]
      exact nodupK (hasS k) hn
    · unfold boxesD
      rw [List.length_map]
      have := bkeys_len (hasS k) hn
      omega
  rw [show pairsD (boxesD k n r) = some ((bkeys (hasS k) n).map fun b => (keyK b, contD k r b)) from prsD k r _, Option.bind_some, if_pos c]
theorem eKey_ok {fa fb : List Vl → Option Vl} {env : List Vl} {kds : List (List Key × D)} {d x : D} {ky : List Key} (h1 : fa env = some (.m kds)) (h2 : fb env = some (.d d)) (h3 : keyT d = some ky) (h4 : valD kds ky = some x) : eKey fa fb env = some (.d x) := by
  unfold eKey
  rw [e2_ok h1 h2]
  show (datOf (.d d)).bind (fun d => (keyT d).bind fun k => (valD kds k).map Vl.d) = _
  rw [show datOf (.d d) = some d from rfl, Option.bind_some, h3, Option.bind_some, h4] <;> rfl
/-- a step that is a read or a write, of boxes that are there -/
def stpOk (k : Kd) (n : Nat) : Stp → Prop
  | .rdO j => j < n
  | .rdS i j => hasS k = true ∧ i < n ∧ j < n ∧ j ≠ i
  | .wrS i j _ => hasS k = true ∧ i < n ∧ j < n ∧ j ≠ i
  | .wrO _ => True
  | _ => False
theorem f_reading (hn : n ≤ 5) {s : Stp} (ok : stpOk k n s) : F_reading [.d (.tp (boxesD k n r)), .d (encStp k h s)] = some (.d (encRd k (effect r h s).2)) := by
  have dk := dict_ok (k := k) (r := r) (fa := eVar 0) (env := [.d (.tp (boxesD k n r)), .d (encStp k h s)]) hn rfl
  cases s with
  | rdO j => exact fnD_rt rfl (sSeq_rt (sIf_t (cEq_s (a := "read") (b := "read") true rfl rfl) (sRet_d (eKey_ok dk (eIx_at (j := 1) rfl rfl rfl rfl) (keyT_D (.inl j)) (valD_at (mem_own ok))))))
  | rdS i j =>
    obtain ⟨h1, h2, h3, h4⟩ := ok
    have hm := mem_sgn h2 h3 h4
    rw [← h1] at hm
    exact fnD_rt rfl (sSeq_rt (sIf_t (cEq_s (a := "read") (b := "read") true rfl rfl) (sRet_d (eKey_ok dk (eIx_at (j := 1) rfl rfl rfl rfl) (keyT_D (.inr (i, j))) (valD_at hm)))))
  | wrS i j x => exact fnD_rt rfl (sSeq_nx (sIf_f (cEq_s (a := "write") (b := "read") false rfl rfl) sNil_nx) (sRet_d rfl))
  | wrO x => exact fnD_rt rfl (sSeq_nx (sIf_f (cEq_s (a := "write") (b := "read") false rfl rfl) sNil_nx) (sRet_d rfl))
  | told st => exact absurd ok id
  | fin => exact absurd ok id
theorem sh_key (b : BK) : SeqAt.shaped (pd (keyD b)) = true := by
  have h1 : PyData.canLay0 (.str "own") = true := by decide +kernel
  have h2 : PyData.canLay0 (.str "sign") = true := by decide +kernel
  cases b with
  | inl j => simp [SeqAt.shaped, keyD, kOwn, nI, pd, pds, PyData.canLayAll0, PyData.depth, PyData.depthAll, h1, PyData.canLay0] <;> exact h1
  | inr p => simp [SeqAt.shaped, keyD, kSgn, nI, pd, pds, PyData.canLayAll0, PyData.depth, PyData.depthAll, h2, PyData.canLay0] <;> exact h2
theorem eqv_key (a b : BK) : PyData.eqv (pd (keyD a)) (pd (keyD b)) = decide (a = b) := by
  have h1 : (("own" : PySem.Str) == "own") = true := by decide +kernel
  have h2 : (("sign" : PySem.Str) == "sign") = true := by decide +kernel
  have h3 : (("own" : PySem.Str) == "sign") = false := by decide +kernel
  have h4 : (("sign" : PySem.Str) == "own") = false := by decide +kernel
  have ic : ∀ x y : Nat, ((x : Int) == (y : Int)) = decide (x = y) := fun x y => by
    by_cases e : x = y
    · subst e; simp
    · have : ¬ ((x : Int) = (y : Int)) := by omega
      simp [e, this]
  cases a with
  | inl i =>
    cases b with
    | inl j =>
      simp only [keyD, kOwn, nI, pd, pds, PyData.eqv, PyData.eqvAll, h1, Bool.true_and, Bool.and_true, ic]
      exact decide_eq_decide.mpr (by simp)
    | inr p => simp only [keyD, kOwn, kSgn, nI, pd, pds, PyData.eqv, PyData.eqvAll, h3, Bool.false_and] <;> simp
  | inr p =>
    cases b with
    | inl j => simp only [keyD, kOwn, kSgn, nI, pd, pds, PyData.eqv, PyData.eqvAll, h4, Bool.false_and] <;> simp
    | inr q =>
      obtain ⟨a, b⟩ := p
      obtain ⟨c, d⟩ := q
      simp only [keyD, kSgn, nI, pd, pds, PyData.eqv, PyData.eqvAll, h2, Bool.true_and, Bool.and_true, ic]
      by_cases e1 : a = c <;> by_cases e2 : b = d <;> simp [e1, e2]
theorem cEq_key {fa fb : List Vl → Option Vl} {env : List Vl} {a b : BK} (h1 : fa env = some (.d (keyD a))) (h2 : fb env = some (.d (keyD b))) : cEq fa fb env = some (decide (a = b)) := by
  unfold cEq
  rw [t2_ok h1 h2]
  unfold gEq
  rw [show deepOf (.d (keyD a)) = some (pd (keyD a)) from rfl, show deepOf (.d (keyD b)) = some (pd (keyD b)) from rfl, Option.bind_some, Option.bind_some, if_pos ⟨sh_key a, sh_key b⟩, eqv_key]
/-- boxes_behind of a write of x at the box b -/
theorem behind_at (hn : n ≤ 5) {st : D} {b0 : BK} {x : D} (hst : st = .tup [.str "write", keyD b0, x]) :
    F_boxes_behind [.d (.tp (boxesD k n r)), .d st] = some (.d (.tp ((bkeys (hasS k) n).map fun b => .tup [keyD b, if b = b0 then x else contD k r b]))) := by
  subst hst
  have lc := lc_all (src := sTup (eVar 0)) (gd := gP [2, 3]) (test := cYes) (elt := eTup (aCons (eVar 2) (aCons (eIf (cEq (eVar 2) (eIx (eVar 1) (eD (.int 1)))) (eIx (eVar 1) (eD (.int 2))) (eVar 3)) aNil))) (vs := [2, 3]) (env := [.d (.tp (boxesD k n r)), .d (.tup [.str "write", keyD b0, x]), .un, .un]) (l := bkeys (hasS k) n) (fun b => .tup [keyD b, contD k r b]) (fun _ => true) (fun b => .tup [keyD b, if b = b0 then x else contD k r b]) rfl (Nat.le_trans (bkeys_len (hasS k) hn) (by omega)) fun b hb => ⟨_, rfl, rfl, fun _ => ?_⟩
  · rw [List.filter_eq_self.mpr fun _ _ => rfl] at lc
    exact fnD_rt rfl (sSeq_nx (sIf_f (cEq_s (a := "write") (b := "read") false rfl rfl) sNil_nx) (sRet_d ((eB1_ok (h := gTupP) lc).trans rfl)))
  · have q : eIf (cEq (eVar 2) (eIx (eVar 1) (eD (.int 1)))) (eIx (eVar 1) (eD (.int 2))) (eVar 3) (setAll [2, 3] [keyD b, contD k r b] (wipeE [.d (.tp (boxesD k n r)), .d (.tup [.str "write", keyD b0, x]), .un, .un] [2, 3])) = some (.d (if b = b0 then x else contD k r b)) := by
      have c := cEq_key (fa := eVar 2) (fb := eIx (eVar 1) (eD (.int 1))) (env := setAll [2, 3] [keyD b, contD k r b] (wipeE [.d (.tp (boxesD k n r)), .d (.tup [.str "write", keyD b0, x]), .un, .un] [2, 3])) (a := b) (b := b0) rfl (eIx_at (j := 1) rfl rfl rfl rfl)
      unfold eIf
      rw [c, Option.bind_some]
      by_cases e : b = b0
      · rw [if_pos (decide_eq_true e), if_pos e]
        exact eIx_at (j := 2) rfl rfl rfl rfl
      · rw [if_neg (by simp [e]), if_neg e]
        rfl
    exact eTup_ok (aCons_ok rfl (aCons_ok q aNil_ok)) rfl (by simp)
theorem f_behind (hn : n ≤ 5) (hh : h < n) {s : Stp} (ok : stpOk k n s) : F_boxes_behind [.d (.tp (boxesD k n r)), .d (encStp k h s)] = some (.d (.tp (boxesD k n (effect r h s).1))) := by
  cases s with
  | rdO j => exact fnD_rt rfl (sSeq_rt (sIf_t (cEq_s (a := "read") (b := "read") true rfl rfl) (sRet_d rfl)))
  | rdS i j => exact fnD_rt rfl (sSeq_rt (sIf_t (cEq_s (a := "read") (b := "read") true rfl rfl) (sRet_d rfl)))
  | wrS i j x =>
    refine (behind_at (k := k) (r := r) hn (b0 := .inr (i, j)) (x := .int x) rfl).trans ?_
    congr 3
    apply List.map_congr_left
    intro b _
    congr 3
    cases b with
    | inl a => rfl
    | inr p =>
      obtain ⟨a, c⟩ := p
      show (if (Sum.inr (a, c) : BK) = .inr (i, j) then D.int x else .int (r.sgn a c)) = .int (upd2 r.sgn i j x a c)
      unfold upd2
      by_cases e : a = i ∧ c = j
      · obtain ⟨rfl, rfl⟩ := e
        rw [if_pos rfl, if_pos ⟨rfl, rfl⟩]
      · rw [if_neg (by simpa using e), if_neg e]
  | wrO x =>
    refine (behind_at (k := k) (r := r) hn (b0 := .inl h) (x := encC k x) rfl).trans ?_
    congr 3
    apply List.map_congr_left
    intro b _
    congr 3
    cases b with
    | inl a =>
      show (if (Sum.inl a : BK) = .inl h then encC k x else encC k (r.own a)) = encC k (upd1 r.own h x a)
      unfold upd1
      by_cases e : a = h
      · subst e
        rw [if_pos rfl, if_pos rfl]
      · rw [if_neg (by simpa using e), if_neg e]
    | inr p => rfl
  | told st => exact absurd ok id
  | fin => exact absurd ok id
end
end K98

/-! ## Spec14 -/
/-! Rooms (14): states, rows. -/
namespace K98
open PySem PySem.Spec PyProof.Rows L2
theorem tInts_lay : ∀ l : List Int, PyData.canLayAll0 (pds (l.map D.int)) = true
  | [] => rfl
  | a :: r => by
    show (PyData.canLay0 (.int a) && PyData.canLayAll0 (pds (r.map D.int))) = true
    rw [tInts_lay r] <;> rfl
theorem tInts_dep : ∀ l : List Int, PyData.depthAll (pds (l.map D.int)) = 0
  | [] => rfl
  | a :: r => by
    show max (PyData.depth (.int a)) (PyData.depthAll (pds (r.map D.int))) = 0
    rw [tInts_dep r] <;> rfl
theorem sh_tInts (l : List Int) : SeqAt.shaped (pd (tInts l)) = true := by
  show (PyData.canLayAll0 (pds (l.map D.int)) && decide (PyData.depthAll (pds (l.map D.int)) + 1 ≤ 64)) = true
  rw [tInts_lay, tInts_dep] <;> rfl
theorem sts_lay : ∀ l : List (List Int), PyData.canLayAll0 (pds (l.map tInts)) = true
  | [] => rfl
  | a :: r => by
    show (PyData.canLayAll0 (pds (a.map D.int)) && PyData.canLayAll0 (pds (r.map tInts))) = true
    rw [tInts_lay, sts_lay r] <;> rfl
theorem sts_dep : ∀ l : List (List Int), PyData.depthAll (pds (l.map tInts)) ≤ 1
  | [] => Nat.zero_le _
  | a :: r => by
    show max (PyData.depthAll (pds (a.map D.int)) + 1) (PyData.depthAll (pds (r.map tInts))) ≤ 1
    have := sts_dep r
    rw [tInts_dep]
    omega
theorem sh_sts (l : List (List Int)) : SeqAt.shaped (.tuple (pds (l.map tInts))) = true := by
  show (PyData.canLayAll0 (pds (l.map tInts)) && decide (PyData.depthAll (pds (l.map tInts)) + 1 ≤ 64)) = true
  have := sts_dep l
  rw [sts_lay, decide_eq_true (by omega)] <;> rfl
theorem eqv_ints : ∀ a b : List Int, PyData.eqvAll (pds (a.map D.int)) (pds (b.map D.int)) = decide (a = b)
  | [], [] => rfl
  | [], _ :: _ => by simp [pds, pd, PyData.eqvAll]
  | _ :: _, [] => by simp [pds, pd, PyData.eqvAll]
  | x :: a, y :: b => by
    show ((x == y) && PyData.eqvAll (pds (a.map D.int)) (pds (b.map D.int))) = _
    rw [eqv_ints a b]
    by_cases e : x = y <;> by_cases e2 : a = b <;> simp [e, e2]
theorem any_sts (st : List Int) : ∀ l : List (List Int), ((pds (l.map tInts)).any fun z => PyData.eqv z (pd (tInts st))) = decide (st ∈ l)
  | [] => by simp [pds]
  | a :: r => by
    show (PyData.eqvAll (pds (a.map D.int)) (pds (st.map D.int)) || (pds (r.map tInts)).any fun z => PyData.eqv z (pd (tInts st))) = _
    rw [eqv_ints, any_sts st r]
    by_cases e : a = st
    · subst e; simp
    · have : ¬ st = a := fun z => e z.symm
      by_cases e2 : st ∈ r <;> simp [e, e2, this]
def encTold : Option (List Int) → D
  | none => .non
  | some st => tInts st
def encRow (k : Kd) (q : Row) : D := .tup [.tup (q.told.map encTold), encRds k q.reads, .tup (q.since.map tInts)]
theorem cEq_sts {fa : List Vl → Option Vl} {env : List Vl} {l : List (List Int)} (h : fa env = some (.d (.tup (l.map tInts)))) : cEq fa (eTup aNil) env = some (decide (l = [])) := by
  unfold cEq
  rw [t2_ok h (show eTup aNil env = some (.d (.tup [])) from rfl)]
  unfold gEq
  rw [show deepOf (.d (.tup (l.map tInts))) = some (.tuple (pds (l.map tInts))) from rfl, show deepOf (.d (.tup [])) = some (.tuple []) from rfl, Option.bind_some, Option.bind_some, if_pos ⟨sh_sts l, rfl⟩]
  cases l with
  | nil => rfl
  | cons a r => rfl
theorem cIn_sts {fa fb : List Vl → Option Vl} {env : List Vl} {l : List (List Int)} {st : List Int} (h1 : fa env = some (.d (tInts st))) (h2 : fb env = some (.d (.tup (l.map tInts)))) : cIn fa fb env = some (decide (st ∈ l)) := by
  unfold cIn
  rw [t2_ok h1 h2]
  unfold gIn
  rw [show datOf (.d (tInts st)) = some (tInts st) from rfl, Option.bind_some, show anyTup (.d (.tup (l.map tInts))) = some (l.map tInts) from rfl, Option.bind_some, if_pos ⟨sh_tInts st, sh_sts l⟩, any_sts]
theorem f_with (k : Kd) (q : Row) (st : List Int) (hl : q.since.length ≤ 900) : F_with_state [.d (encRow k q), .d (tInts st)] = some (.d (encRow k (withState q st))) := by
  have u : sUnp [2, 3, 4] (eVar 0) [.d (encRow k q), .d (tInts st), .un, .un, .un] = some (.nx [.d (encRow k q), .d (tInts st), .d (.tup (q.told.map encTold)), .d (encRds k q.reads), .d (.tup (q.since.map tInts))]) := sUnp_ok (v := .d (encRow k q)) (xs := [.tup (q.told.map encTold), encRds k q.reads, .tup (q.since.map tInts)]) rfl rfl rfl
  let E : List Vl := [.d (encRow k q), .d (tInts st), .d (.tup (q.told.map encTold)), .d (encRds k q.reads), .d (.tup (q.since.map tInts))]
  have c : cOr (cEq (eVar 4) (eTup aNil)) (cIn (eVar 1) (eVar 4)) E = some (decide (q.since = [] ∨ st ∈ q.since)) := by
    have c1 := cEq_sts (fa := eVar 4) (env := E) (l := q.since) rfl
    have c2 := cIn_sts (fa := eVar 1) (fb := eVar 4) (env := E) (l := q.since) (st := st) rfl rfl
    by_cases h : q.since = []
    · rw [cOr_t (c1.trans (congrArg some (decide_eq_true h)))]
      exact congrArg some (decide_eq_true (.inl h)).symm
    · rw [cOr_f (c1.trans (congrArg some (decide_eq_false h))) c2]
      exact congrArg some (decide_eq_decide.mpr ⟨.inr, fun z => z.resolve_left h⟩)
  unfold withState
  by_cases h : q.since = [] ∨ st ∈ q.since
  · rw [if_pos h]
    exact fnD_rt rfl (sSeq_nx u (sSeq_rt (sIf_t (c.trans (congrArg some (decide_eq_true h))) (sRet_d rfl))))
  · rw [if_neg h]
    have cat : eCat (eVar 4) (eTup (aCons (eVar 1) aNil)) E = some (.d (.tup ((q.since ++ [st]).map tInts))) := by
      unfold eCat
      rw [e2_ok (show eVar 4 E = some (.d (.tup (q.since.map tInts))) from rfl) (show eTup (aCons (eVar 1) aNil) E = some (.d (.tup [tInts st])) from rfl)]
      show (if (q.since.map tInts).length + 1 ≤ 1000 then some (Vl.d (.tup (q.since.map tInts ++ [tInts st]))) else none) = _
      rw [if_pos (by rw [List.length_map]; omega), List.map_append] <;> rfl
    exact fnD_rt rfl (sSeq_nx u (sSeq_nx (sIf_f (c.trans (congrArg some (decide_eq_false h))) sNil_nx) (sRet_d (eTup_ok (ds := [.tup (q.told.map encTold), encRds k q.reads, .tup ((q.since ++ [st]).map tInts)]) (aCons_ok rfl (aCons_ok rfl (aCons_ok cat aNil_ok))) rfl (by simp)))))

/-! ### states -/
section
variable {k : Kd} {n h : Nat} {r : Rm} {rows : D}
def roomD (k : Kd) (n : Nat) (r : Rm) (rows : D) : D := .tup [.tp (boxesD k n r), rows]
def isOnce : Kd → Bool
  | .once => true
  | _ => false
theorem c_once {k : Kd} {n : Nat} {env : List Vl} (h : env[0]? = some (.d (encMan' n k))) : cEq (eIx (eVar 0) (eD (.int 0))) (eD (.str "once")) env = some (isOnce k) := by
  have hv : eVar 0 env = some (.d (encMan' n k)) := by unfold eVar; rw [h]
  cases k with
  | once => exact cEq_s (a := "once") true (eIx_at (j := 0) hv rfl rfl rfl) rfl
  | twice t => exact cEq_s (a := "twice") false (eIx_at (j := 0) hv rfl rfl rfl) rfl
  | handed t m => exact cEq_s (a := "handed") false (eIx_at (j := 0) hv rfl rfl rfl) rfl
  | signs x y z => exact cEq_s (a := "signs") false (eIx_at (j := 0) hv rfl rfl rfl) rfl
theorem f_state (hn : n ≤ 5) : F_state_of [.d (encMan' n k), .d (roomD k n r rows)] = some (.d (tInts (state n r))) := by
  let M : Vl := .m ((bkeys (hasS k) n).map fun b => (keyK b, contD k r b))
  have a1 : sAsg 2 (eB1 gDict (aCons (eIx (eVar 1) (eD (.int 0))) aNil)) [.d (encMan' n k), .d (roomD k n r rows), .un, .un, .un, .un, .un] = some (.nx [.d (encMan' n k), .d (roomD k n r rows), M, .un, .un, .un, .un]) := by
    unfold sAsg
    rw [dict_ok (k := k) (r := r) hn (eIx_at (j := 0) rfl rfl rfl rfl)] <;> rfl
  let E : List Vl := [.d (encMan' n k), .d (roomD k n r rows), M, .d (.str "own"), .un, .un, .un]
  have lc := lc_rng (fa := eCall 1 F_places_of (aCons (eVar 0) aNil)) (test := cYes) (elt := eKey (eVar 2) (eTup (aCons (eVar 3) (aCons (eVar 6) aNil)))) (i := 6) (vs := [6]) (env := E) (n := n) (fun _ => true) (fun j => encC k (r.own j)) (by omega) (eCall_ok (n := 1) (F := F_places_of) (v := .d (nI n)) (vals := [.d (encMan' n k)]) rfl (f_places k n)) fun j hj => ⟨rfl, fun _ => eKey_ok (kds := (bkeys (hasS k) n).map fun b => (keyK b, contD k r b)) rfl (d := kOwn j) rfl (keyT_D (.inl j)) (valD_at (mem_own hj))⟩
  rw [List.filter_eq_self.mpr fun _ _ => rfl] at lc
  have a4 := sAsg_o (i := 4) lc
  have sh := c_shared (k := k) (n := n) (env := E) rfl
  let E2 : List Vl := [.d (encMan' n k), .d (roomD k n r rows), M, .d (.str "own"), .o ((List.range n).map fun j => encC k (r.own j)), .un, .un]
  have co := c_once (k := k) (n := n) (env := E2) rfl
  by_cases hk : k = .once
  · subst hk
    refine fnD_rt rfl (sSeq_nx a1 (sSeq_nx (sAsg_d rfl) (sSeq_nx (sIf_f sh sNil_nx) (sSeq_nx a4 (sSeq_rt (sIf_t co (sRet_d ((eB1_ok (h := gTupL) (a := .u ((List.range n).map fun j => encC .once (r.own j))) rfl).trans ?_))))))))
    show some (Vl.d (.tup ((List.range n).map fun j => D.int (r.own j).val))) = _
    unfold tInts state
    rw [List.map_map] <;> rfl
  · have cf : isOnce k = false := by
      cases k with
      | once => exact absurd rfl hk
      | _ => rfl
    rw [cf] at co
    have lc2 := lc_all (src := sLst (eVar 4)) (gd := gN 5) (test := cYes) (elt := eIx (eVar 5) (eD (.int 0))) (vs := [5]) (env := E2) (l := List.range n) (fun j => encC k (r.own j)) (fun _ => true) (fun j => D.int (r.own j).val) rfl (by rw [List.length_range]; omega) fun j hj => ⟨_, rfl, rfl, fun _ => by
      obtain ⟨l, e1, e2⟩ := val_at hk (r.own j)
      rw [e1]
      exact eIx_at (j := 0) rfl rfl rfl e2⟩
    rw [List.filter_eq_self.mpr fun _ _ => rfl] at lc2
    refine fnD_rt rfl (sSeq_nx a1 (sSeq_nx (sAsg_d rfl) (sSeq_nx (sIf_f sh sNil_nx) (sSeq_nx a4 (sSeq_nx (sIf_f co sNil_nx) (sRet_d ((eB1_ok (h := gTupL) lc2).trans ?_)))))))
    unfold tInts state
    rw [List.map_map] <;> rfl
end
end K98

/-! ## Spec15 -/
/-! A step of a room (15). -/
namespace K98
open PySem PySem.Spec PyProof.Rows L2
theorem encC_lay (k : Kd) (c : C) : PyData.canLay0 (pd (encC k c)) = true ∧ PyData.depth (pd (encC k c)) ≤ 2 := by
  have a1 := tInts_lay c.view
  have a2 := tInts_dep c.view
  have a3 := tInts_lay c.calls
  have a4 := tInts_dep c.calls
  cases k <;> simp [encC, tInts, pd, pds, PyData.canLay0, PyData.canLayAll0, PyData.depth, PyData.depthAll, a1, a2, a3, a4]
theorem rds_lay (k : Kd) : ∀ rs : List Rd, PyData.canLayAll0 (pds (rs.map (encRd k))) = true ∧ PyData.depthAll (pds (rs.map (encRd k))) ≤ 2
  | [] => ⟨rfl, Nat.zero_le _⟩
  | x :: r => by
    obtain ⟨h1, h2⟩ := rds_lay k r
    have hx : PyData.canLay0 (pd (encRd k x)) = true ∧ PyData.depth (pd (encRd k x)) ≤ 2 := by
      cases x with
      | c c => exact encC_lay k c
      | b i => exact ⟨rfl, Nat.zero_le _⟩
      | n => exact ⟨rfl, Nat.zero_le _⟩
    refine ⟨?_, ?_⟩
    · show (PyData.canLay0 (pd (encRd k x)) && PyData.canLayAll0 (pds (r.map (encRd k)))) = true
      rw [hx.1, h1] <;> rfl
    · show max (PyData.depth (pd (encRd k x))) (PyData.depthAll (pds (r.map (encRd k)))) ≤ 2
      omega
theorem cEq_rds {k : Kd} {fa : List Vl → Option Vl} {env : List Vl} {rs : List Rd} (h : fa env = some (.d (encRds k rs))) : cEq fa (eTup aNil) env = some rs.isEmpty := by
  have hs : SeqAt.shaped (.tuple (pds (rs.map (encRd k)))) = true := by
    show (PyData.canLayAll0 (pds (rs.map (encRd k))) && decide (PyData.depthAll (pds (rs.map (encRd k))) + 1 ≤ 64)) = true
    have := rds_lay k rs
    rw [this.1, decide_eq_true (by omega)] <;> rfl
  unfold cEq
  rw [t2_ok h (show eTup aNil env = some (.d (.tup [])) from rfl)]
  unfold gEq
  rw [show deepOf (.d (encRds k rs)) = some (.tuple (pds (rs.map (encRd k)))) from rfl, show deepOf (.d (.tup [])) = some (.tuple []) from rfl, Option.bind_some, Option.bind_some, if_pos ⟨hs, rfl⟩]
  cases rs with
  | nil => rfl
  | cons a r => rfl
section
variable {k : Kd} {n h : Nat} {r : Rm} {jobs : Nat → Items}
def rowsD (k : Kd) (n : Nat) (r : Rm) : List D := (List.range n).map fun i => encRow k (r.row i)
def encRoom (k : Kd) (n : Nat) (r : Rm) : D := roomD k n r (.tup (rowsD k n r))
def encJobs (n : Nat) (jobs : Nat → Items) : D := .tup ((List.range n).map fun i => encJob (jobs i))
theorem rowsD_at (hh : h < n) : (rowsD k n r)[h]? = some (encRow k (r.row h)) := by
  unfold rowsD
  rw [List.getElem?_map, List.getElem?_range hh] <;> rfl
theorem row_ix {fa fb : List Vl → Option Vl} {env : List Vl} (hh : h < n) (h1 : fa env = some (.d (encRoom k n r))) (h2 : fb env = some (.d (nI h))) : eIx (eIx fa (eD (.int 1))) fb env = some (.d (encRow k (r.row h))) :=
  eIx_at (j := h) (eIx_at (j := 1) h1 rfl rfl rfl) rfl h2 (rowsD_at hh)
theorem f_since {d : Deed} (hn : n ≤ 5) (hh : h < n) : F_since_begin [.d (encMan' n k), .d (encRoom k n r), .d (nI h), .d (encDeed h d)] = some (.d (.tup ((sinceBegin n r h d).map tInts))) := by
  let E : List Vl := [.d (encMan' n k), .d (encRoom k n r), .d (nI h), .d (encDeed h d), .d (.tup ((r.row h).told.map encTold)), .d (encRds k (r.row h).reads), .d (.tup ((r.row h).since.map tInts))]
  have u : sUnp [4, 5, 6] (eIx (eIx (eVar 1) (eD (.int 1))) (eVar 2)) [.d (encMan' n k), .d (encRoom k n r), .d (nI h), .d (encDeed h d), .un, .un, .un] = some (.nx E) := sUnp_ok (v := .d (encRow k (r.row h))) (xs := [.tup ((r.row h).told.map encTold), encRds k (r.row h).reads, .tup ((r.row h).since.map tInts)]) (row_ix hh rfl rfl) rfl rfl
  cases d with
  | put v => exact fnD_rt rfl (sSeq_nx u (sSeq_rt (sIf_t (cOr_t (cEq_s (a := "put") (b := "put") true rfl rfl)) (sRet_d rfl))))
  | look =>
    have c1 : cOr (cEq (eIx (eVar 3) (eD (.int 0))) (eD (.str "put"))) (cEq (eIx (eVar 0) (eD (.int 0))) (eD (.str "tables"))) E = some false := cOr_f (cEq_s (a := "look") (b := "put") false rfl rfl) (c_tables (k := k) (n := n) rfl)
    have c2 := cEq_rds (k := k) (fa := eVar 5) (env := E) (rs := (r.row h).reads) rfl
    unfold sinceBegin
    cases he : (r.row h).reads.isEmpty with
    | true =>
      rw [he] at c2
      rw [if_pos rfl]
      exact fnD_rt rfl (sSeq_nx u (sSeq_nx (sIf_f c1 sNil_nx) (sSeq_rt (sIf_t c2 (sRet_d (eTup_ok (ds := [tInts (state n r)]) (aCons_ok (eCall_ok (n := 2) (F := F_state_of) (v := .d (tInts (state n r))) (vals := [.d (encMan' n k), .d (encRoom k n r)]) rfl (f_state hn)) aNil_ok) rfl (by simp)))))))
    | false =>
      rw [he] at c2
      rw [if_neg Bool.false_ne_true]
      exact fnD_rt rfl (sSeq_nx u (sSeq_nx (sIf_f c1 sNil_nx) (sSeq_nx (sIf_f c2 sNil_nx) (sRet_d rfl))))
theorem f_there (hh : h < n) (hl : (r.row h).told.length ≤ (jobs h).length) (hi : (jobs h).length ≤ 900) : F_deed_there [.d (encJobs n jobs), .d (encRoom k n r), .d (nI h)] = some (.d (encOD h (deedAt (jobs h) (r.row h).told.length))) := by
  have hx : ((r.row h).told.map encTold).length = (r.row h).told.length := List.length_map _
  have c : cNot (cCh (eD (.int 0)) (eVar 2) (eB1 gLen (aCons (eVar 0) aNil))) [.d (encJobs n jobs), .d (encRoom k n r), .d (nI h)] = some false := by
    have e : eB1 gLen (aCons (eVar 0) aNil) [.d (encJobs n jobs), .d (encRoom k n r), .d (nI h)] = some (.d (nI n)) := by
      have q := eLen_ok (fa := eVar 0) (env := [.d (encJobs n jobs), .d (encRoom k n r), .d (nI h)]) (xs := (List.range n).map fun i => encJob (jobs i)) rfl rfl
      rw [List.length_map, List.length_range] at q
      exact q
    unfold cNot cCh
    rw [e]
    show (Option.bind (some (0 : Int)) fun i => Option.bind (some (h : Int)) fun j => if i ≤ j then (Option.some (n : Int)).map fun k => decide (j < k) else some false).map not = some false
    rw [Option.bind_some, Option.bind_some, if_pos (by omega)]
    show some (!decide ((h : Int) < (n : Int))) = some false
    rw [decide_eq_true (by omega)] <;> rfl
  have j := eIx_at (fa := eVar 0) (fb := eVar 2) (env := [.d (encJobs n jobs), .d (encRoom k n r), .d (nI h)]) (j := h) (x := encJob (jobs h)) rfl rfl rfl (by rw [List.getElem?_map, List.getElem?_range hh] <;> rfl)
  have t := eIx_at (fa := eIx (eIx (eVar 1) (eD (.int 1))) (eVar 2)) (fb := eD (.int 0)) (env := [.d (encJobs n jobs), .d (encRoom k n r), .d (nI h)]) (j := 0) (row_ix hh rfl rfl) rfl rfl rfl
  have fd := f_deed (h := h) (items := jobs h) (told := (r.row h).told.map encTold) (by omega) (by omega)
  rw [hx] at fd
  exact fnD_rt rfl (sSeq_nx (sIf_f c sNil_nx) (sRet_d (eCall_ok (n := 3) (F := F_next_deed) (v := .d (encOD h (deedAt (jobs h) (r.row h).told.length))) (vals := [.d (nI h), .d (encJob (jobs h)), .d (.tup ((r.row h).told.map encTold))]) (aCons_ok rfl (aCons_ok j (aCons_ok t aNil_ok))) fd)))
theorem isNon_OD (h : Nat) (o : Option Deed) : isNonD (encOD h o) = !o.isSome := by
  cases o with
  | none => rfl
  | some d => cases d <;> rfl
theorem f_may (hn : n ≤ 5) (hl : ∀ h, h < n → (r.row h).told.length ≤ (jobs h).length) (hi : ∀ h, h < n → (jobs h).length ≤ 900) :
    F_may_step [.d (encMan' n k), .d (encJobs n jobs), .d (encRoom k n r)] = some (.o (((List.range n).filter fun h => (deedAt (jobs h) (r.row h).told.length).isSome).map nI)) := by
  refine fnD_rt rfl (sRet_o (lc_rng (n := n) (fun h => (deedAt (jobs h) (r.row h).told.length).isSome) nI (by omega) (man1 (k := k) rfl) fun j hj => ⟨?_, fun _ => rfl⟩))
  have q : eCall 3 F_deed_there (aCons (eVar 1) (aCons (eVar 2) (aCons (eVar 3) aNil))) [.d (encMan' n k), .d (encJobs n jobs), .d (encRoom k n r), .d (.int (j : Int))] = some (.d (encOD j (deedAt (jobs j) (r.row j).told.length))) := eCall_ok (n := 3) (F := F_deed_there) (v := .d (encOD j (deedAt (jobs j) (r.row j).told.length))) (vals := [.d (encJobs n jobs), .d (encRoom k n r), .d (nI j)]) rfl (f_there hj (hl j hj) (hi j hj))
  have q2 := t2_ok (h := gIsN false) q (show eD .non _ = some (.d .non) from rfl)
  refine q2.trans ?_
  show some (isNonD (encOD j (deedAt (jobs j) (r.row j).told.length)) == false) = _
  rw [isNon_OD]
  cases (deedAt (jobs j) (r.row j).told.length).isSome <;> rfl
end
end K98

/-! ## Spec16 -/
/-! A step of a room (16): own_row, stepped_end. -/
namespace K98
open PySem PySem.Spec PyProof.Rows L2
section
variable {k : Kd} {n h : Nat} {r : Rm} {jobs : Nat → Items}
/-- what holds of a room before the hand's step -/
structure StepOk (k : Kd) (n : Nat) (jobs : Nat → Items) (r : Rm) (h : Nat) (d : Deed) : Prop where
  hn : n ≤ 5
  hh : h < n
  kk : KdOk k
  deed : deedAt (jobs h) (r.row h).told.length = some d
  items : ∀ i, i < n → (jobs i).length ≤ 900
  told : ∀ i, i < n → (r.row i).told.length ≤ (jobs i).length
  reads : (r.row h).reads.length ≤ 880
  since : ∀ i, i < n → (r.row i).since.length ≤ 880
  rds : RdsOk k n d (r.row h).reads
  stp : stpOk k n (nextStep k n h d (manyAt (jobs h) (r.row h).told.length) (r.row h).reads)
  rds2 : (∀ x, nextStep k n h d (manyAt (jobs h) (r.row h).told.length) (r.row h).reads ≠ .wrO x) → RdsOk k n d ((r.row h).reads ++ [(effect r h (nextStep k n h d (manyAt (jobs h) (r.row h).told.length) (r.row h).reads)).2])
theorem nextStep_cases (d : Deed) (many : Nat) (rs : List Rd) : nextStep k n h d many rs ≠ .fin := by
  intro e
  have hl : ∀ rs, lookOf k n h rs ≠ .fin := fun rs e => by
    cases k with
    | once => simp only [lookOf, lookOnce] at e; split at e <;> cases e
    | twice t => simp only [lookOf, lookTwice] at e; split at e <;> cases e
    | handed t m =>
      simp only [lookOf] at e
      rcases lookHanded_cases n m rs with ⟨_, z⟩ | ⟨_, z⟩ <;> rw [z] at e <;> cases e
    | signs a b c =>
      simp only [lookOf] at e
      rcases lookSigns_cases (h := h) (n := n) (tg := a) (sh := b) (mv := c) (rs := rs) with ⟨_, z⟩ | ⟨_, z⟩ | ⟨_, _, _, z⟩ <;> rw [z] at e <;> cases e
  cases d with
  | look => exact hl rs e
  | put v =>
    cases k with
    | once => cases e
    | twice t => cases e
    | handed t m =>
      simp only [nextStep, putOf] at e
      rcases lookHanded_cases n m rs with ⟨_, z⟩ | ⟨_, z⟩ <;> rw [z] at e <;> cases e
    | signs a b c =>
      simp only [nextStep, putOf] at e
      split at e
      · cases e
      · rcases lookSigns_cases (h := h) (n := n) (tg := a) (sh := b) (mv := c) (rs := rs.drop (b * (n - 1))) with ⟨_, z⟩ | ⟨_, z⟩ | ⟨_, _, _, z⟩ <;> rw [z] at e <;> cases e
/-- the told of the last step: none: it goes on -/
def lastD (k : Kd) (h : Nat) (x : Option (Option (List Int))) (s : Stp) : D := match x with
  | some y => .tup [.str "told", encTold y]
  | none => encStp k h s
def endD (h : Nat) (d : Deed) (since : List (List Int)) : Option (Option (List Int)) → D
  | none => .non
  | some x => .tup [encDeed h d, encTold x, .tup (since.map tInts)]
def newRow (q : Row) (rs : List Rd) (since : List (List Int)) : Option (Option (List Int)) → Row
  | none => ⟨q.told, rs, since⟩
  | some x => ⟨q.told ++ [x], [], []⟩
theorem f_own_row {d : Deed} (ok : StepOk k n jobs r h d) :
    F_own_row [.d (encMan' n k), .d (encJobs n jobs), .d (encRoom k n r), .d (nI h), .d (encDeed h d)] =
      some (.d (.tup [encRow k (newRow (r.row h) ((r.row h).reads ++ [(effect r h (nextStep k n h d (manyAt (jobs h) (r.row h).told.length) (r.row h).reads)).2]) (sinceBegin n r h d)
          (ended k n h d (manyAt (jobs h) (r.row h).told.length) (nextStep k n h d (manyAt (jobs h) (r.row h).told.length) (r.row h).reads) ((r.row h).reads ++ [(effect r h (nextStep k n h d (manyAt (jobs h) (r.row h).told.length) (r.row h).reads)).2]))),
        encStp k h (nextStep k n h d (manyAt (jobs h) (r.row h).told.length) (r.row h).reads),
        endD h d (sinceBegin n r h d) (ended k n h d (manyAt (jobs h) (r.row h).told.length) (nextStep k n h d (manyAt (jobs h) (r.row h).told.length) (r.row h).reads) ((r.row h).reads ++ [(effect r h (nextStep k n h d (manyAt (jobs h) (r.row h).told.length) (r.row h).reads)).2]))])) := by
  obtain ⟨hn, hh, kk, hdeed, hitems, htold, hreads, hsince, hrds, hstp, hrds2⟩ := ok
  let q := r.row h
  let many := manyAt (jobs h) q.told.length
  have es : ∃ s, s = nextStep k n h d many q.reads := ⟨_, rfl⟩
  obtain ⟨s, es⟩ := es
  have hs1 : nextStep k n h d (manyAt (jobs h) (r.row h).told.length) (r.row h).reads = s := es.symm
  rw [hs1] at hstp hrds2 ⊢
  let rs := q.reads ++ [(effect r h s).2]
  let ah := cntD n h many
  let since := sinceBegin n r h d
  have hah : ah[h]? = some (nI many) := cntD_at hh
  have hx : (q.told.map encTold).length = q.told.length := List.length_map _
  let M : D := encMan' n k
  let J : D := encJobs n jobs
  let R : D := encRoom k n r
  let T : D := .tup (q.told.map encTold)
  have u : sUnp [5, 6, 7] (eIx (eIx (eVar 2) (eD (.int 1))) (eVar 3)) [.d M, .d J, .d R, .d (nI h), .d (encDeed h d), .un, .un, .un, .un, .un, .un] = some (.nx [.d M, .d J, .d R, .d (nI h), .d (encDeed h d), .d T, .d (encRds k q.reads), .d (.tup (q.since.map tInts)), .un, .un, .un]) :=
    sUnp_ok (v := .d (encRow k q)) (xs := [T, encRds k q.reads, .tup (q.since.map tInts)]) (row_ix hh rfl rfl) rfl rfl
  have fa := f_ahead (k := k) (n := n) (h := h) (items := jobs h) (told := q.told.map encTold) hh (by omega) (by rw [hx]; exact htold h hh) (by have := hitems h hh; omega)
  rw [hx] at fa
  have jx : ∀ e : List Vl, eVar 1 e = some (.d J) → eVar 3 e = some (.d (nI h)) → eIx (eVar 1) (eVar 3) e = some (.d (encJob (jobs h))) := fun e h1 h2 => eIx_at (j := h) h1 rfl h2 (by rw [List.getElem?_map, List.getElem?_range hh] <;> rfl)
  have a8 : sAsg 8 (eCall 4 F_ahead_of (aCons (eVar 0) (aCons (eVar 3) (aCons (eIx (eVar 1) (eVar 3)) (aCons (eVar 5) aNil))))) [.d M, .d J, .d R, .d (nI h), .d (encDeed h d), .d T, .d (encRds k q.reads), .d (.tup (q.since.map tInts)), .un, .un, .un] = some (.nx [.d M, .d J, .d R, .d (nI h), .d (encDeed h d), .d T, .d (encRds k q.reads), .d (.tup (q.since.map tInts)), .d (.tup ah), .un, .un]) :=
    sAsg_d (eCall_ok (v := .d (.tup ah)) (vals := [.d M, .d (nI h), .d (encJob (jobs h)), .d T]) (aCons_ok rfl (aCons_ok rfl (aCons_ok (jx _ rfl rfl) (aCons_ok rfl aNil_ok)))) fa)
  have a7 : sAsg 7 (eCall 4 F_since_begin (aCons (eVar 0) (aCons (eVar 2) (aCons (eVar 3) (aCons (eVar 4) aNil))))) [.d M, .d J, .d R, .d (nI h), .d (encDeed h d), .d T, .d (encRds k q.reads), .d (.tup (q.since.map tInts)), .d (.tup ah), .un, .un] = some (.nx [.d M, .d J, .d R, .d (nI h), .d (encDeed h d), .d T, .d (encRds k q.reads), .d (.tup (since.map tInts)), .d (.tup ah), .un, .un]) :=
    sAsg_d (eCall_ok (v := .d (.tup (since.map tInts))) (vals := [.d M, .d R, .d (nI h), .d (encDeed h d)]) rfl (f_since hn hh))
  have f1 := f_next (many := many) (ah := ah) hh (by omega) kk hrds (by omega) hah
  rw [← es] at f1
  have a9 : sAsg 9 (eCall 5 F_next_step (aCons (eVar 0) (aCons (eVar 3) (aCons (eVar 4) (aCons (eVar 8) (aCons (eVar 6) aNil)))))) [.d M, .d J, .d R, .d (nI h), .d (encDeed h d), .d T, .d (encRds k q.reads), .d (.tup (since.map tInts)), .d (.tup ah), .un, .un] = some (.nx [.d M, .d J, .d R, .d (nI h), .d (encDeed h d), .d T, .d (encRds k q.reads), .d (.tup (since.map tInts)), .d (.tup ah), .d (encStp k h s), .un]) :=
    sAsg_d (eCall_ok (v := .d (encStp k h s)) (vals := nE k n h d ah q.reads) rfl f1)
  have fr := f_reading (k := k) (n := n) (h := h) (r := r) hn hstp
  have a6 : sAsg 6 (eCat (eVar 6) (eTup (aCons (eCall 2 F_reading (aCons (eIx (eVar 2) (eD (.int 0))) (aCons (eVar 9) aNil))) aNil))) [.d M, .d J, .d R, .d (nI h), .d (encDeed h d), .d T, .d (encRds k q.reads), .d (.tup (since.map tInts)), .d (.tup ah), .d (encStp k h s), .un] = some (.nx [.d M, .d J, .d R, .d (nI h), .d (encDeed h d), .d T, .d (encRds k rs), .d (.tup (since.map tInts)), .d (.tup ah), .d (encStp k h s), .un]) := by
    refine sAsg_d (x := encRds k rs) ?_
    unfold eCat
    refine (e2_ok (a := .d (encRds k q.reads)) (b := .d (.tup [encRd k (effect r h s).2])) rfl (eTup_ok (ds := [encRd k (effect r h s).2]) (aCons_ok (eCall_ok (v := .d (encRd k (effect r h s).2)) (vals := [.d (.tp (boxesD k n r)), .d (encStp k h s)]) (aCons_ok (eIx_at (j := 0) rfl rfl rfl rfl) (aCons_ok rfl aNil_ok)) fr) aNil_ok) rfl (by simp))).trans ?_
    show (if (q.reads.map (encRd k)).length + 1 ≤ 1000 then some (Vl.d (.tup (q.reads.map (encRd k) ++ [encRd k (effect r h s).2]))) else none) = _
    rw [if_pos (by rw [List.length_map]; show (r.row h).reads.length + 1 ≤ 1000; omega)]
    show _ = some (Vl.d (.tup ((q.reads ++ [(effect r h s).2]).map (encRd k))))
    rw [List.map_append] <;> rfl
  let x := ended k n h d many s rs
  have last : ∃ s2, F_next_step (nE k n h d ah rs) = some (.d (lastD k h x s2)) ∧ (x = none → ∀ st, s2 ≠ .told st) ∧ (x = none → s2 ≠ .fin) := by
    by_cases hw : ∃ y, s = .wrO y
    · obtain ⟨y, rfl⟩ := hw
      have e1 : rs = q.reads ++ [Rd.n] := rfl
      have f2 := f_next1 (many := many) (ah := ah) (x := y) hh (by omega) kk hrds (by omega) es.symm
      have xe : x = some none := rfl
      have no : ¬ x = none := fun z => by rw [xe] at z; cases z
      exact ⟨.fin, f2, fun z => absurd z no, fun z => absurd z no⟩
    · have hw' : ∀ y, s ≠ .wrO y := fun y z => hw ⟨y, z⟩
      have f2 := f_next (many := many) (ah := ah) (rs := rs) hh (by omega) kk (hrds2 hw') (by show (q.reads ++ [_]).length ≤ 900; rw [List.length_append]; show (r.row h).reads.length + 1 ≤ 900; omega) hah
      have ex : x = match nextStep k n h d many rs with | .told st => some (some st) | _ => none := by
        show ended k n h d many s rs = _
        unfold ended
        split
        · exact absurd rfl (hw' _)
        · rfl
      refine ⟨nextStep k n h d many rs, ?_, ?_, ?_⟩
      · rw [f2]
        congr 2
        rw [ex]
        cases hN : nextStep k n h d many rs with
        | fin => exact absurd hN (nextStep_cases d many rs)
        | _ => rfl
      · intro z st e
        rw [ex, e] at z
        cases z
      · intro _ e
        exact nextStep_cases d many rs e
  obtain ⟨s2, f2, h3, h4⟩ := last
  have a10 : sAsg 10 (eCall 5 F_next_step (aCons (eVar 0) (aCons (eVar 3) (aCons (eVar 4) (aCons (eVar 8) (aCons (eVar 6) aNil)))))) [.d M, .d J, .d R, .d (nI h), .d (encDeed h d), .d T, .d (encRds k rs), .d (.tup (since.map tInts)), .d (.tup ah), .d (encStp k h s), .un] = some (.nx [.d M, .d J, .d R, .d (nI h), .d (encDeed h d), .d T, .d (encRds k rs), .d (.tup (since.map tInts)), .d (.tup ah), .d (encStp k h s), .d (lastD k h x s2)]) :=
    sAsg_d (eCall_ok (v := .d (lastD k h x s2)) (vals := nE k n h d ah rs) rfl f2)
  show F_own_row _ = some (.d (.tup [encRow k (newRow q rs since x), encStp k h s, endD h d since x]))
  generalize x = x' at h3 h4 a10 ⊢
  cases x' with
  | none =>
    have ct : cNe (eIx (eVar 10) (eD (.int 0))) (eD (.str "told")) [.d M, .d J, .d R, .d (nI h), .d (encDeed h d), .d T, .d (encRds k rs), .d (.tup (since.map tInts)), .d (.tup ah), .d (encStp k h s), .d (encStp k h s2)] = some true := by
      cases s2 with
      | rdO j => exact cNe_s (a := "read") (b := "told") true rfl rfl
      | rdS i j => exact cNe_s (a := "read") (b := "told") true rfl rfl
      | wrS i j y => exact cNe_s (a := "write") (b := "told") true rfl rfl
      | wrO y => exact cNe_s (a := "write") (b := "told") true rfl rfl
      | told st => exact absurd rfl (h3 rfl st)
      | fin => exact absurd rfl (h4 rfl)
    exact fnD_rt rfl (sSeq_nx u (sSeq_nx a8 (sSeq_nx a7 (sSeq_nx a9 (sSeq_nx a6 (sSeq_nx a10 (sSeq_rt (sIf_t ct (sRet_d rfl)))))))))
  | some y =>
    have ct : cNe (eIx (eVar 10) (eD (.int 0))) (eD (.str "told")) [.d M, .d J, .d R, .d (nI h), .d (encDeed h d), .d T, .d (encRds k rs), .d (.tup (since.map tInts)), .d (.tup ah), .d (encStp k h s), .d (.tup [.str "told", encTold y])] = some false := cNe_s (a := "told") (b := "told") false rfl rfl
    have cat : eCat (eVar 5) (eTup (aCons (eIx (eVar 10) (eD (.int 1))) aNil)) [.d M, .d J, .d R, .d (nI h), .d (encDeed h d), .d T, .d (encRds k rs), .d (.tup (since.map tInts)), .d (.tup ah), .d (encStp k h s), .d (.tup [.str "told", encTold y])] = some (.d (.tup ((q.told ++ [y]).map encTold))) := by
      unfold eCat
      refine (e2_ok (a := .d T) (b := .d (.tup [encTold y])) rfl rfl).trans ?_
      show (if (q.told.map encTold).length + 1 ≤ 1000 then some (Vl.d (.tup (q.told.map encTold ++ [encTold y]))) else none) = _
      have := htold h hh
      have := hitems h hh
      rw [if_pos (by rw [hx]; show (r.row h).told.length + 1 ≤ 1000; omega), List.map_append] <;> rfl
    refine fnD_rt rfl (sSeq_nx u (sSeq_nx a8 (sSeq_nx a7 (sSeq_nx a9 (sSeq_nx a6 (sSeq_nx a10 (sSeq_nx (sIf_f ct sNil_nx) (sRet_d (eTup_ok (ds := [encRow k ⟨q.told ++ [y], [], []⟩, encStp k h s, .tup [encDeed h d, encTold y, .tup (since.map tInts)]]) (aCons_ok (eTup_ok (ds := [.tup ((q.told ++ [y]).map encTold), .tup [], .tup []]) (aCons_ok cat (aCons_ok rfl (aCons_ok rfl aNil_ok))) rfl (by simp)) (aCons_ok rfl (aCons_ok (eTup_ok (ds := [encDeed h d, encTold y, .tup (since.map tInts)]) (aCons_ok rfl (aCons_ok (eIx_at (j := 1) rfl rfl rfl rfl) (aCons_ok rfl aNil_ok))) rfl (by simp)) aNil_ok))) rfl (by simp))))))))))
end
end K98

/-! ## Spec17 -/
/-! A step of a room (17): stepped_end, stepped. -/
namespace K98
open PySem PySem.Spec PyProof.Rows L2
theorem cNe_of {fa fb : List Vl → Option Vl} {env : List Vl} {b : Bool} (h : cEq fa fb env = some b) : cNe fa fb env = some (!b) := by
  unfold cEq t2 at h
  unfold cNe t2
  obtain ⟨x, hx, h⟩ := Option.bind_eq_some_iff.mp h
  obtain ⟨y, hy, h⟩ := Option.bind_eq_some_iff.mp h
  rw [hx, Option.bind_some, hy, Option.bind_some]
  unfold gEq at h
  unfold gNe
  obtain ⟨d, hd, h⟩ := Option.bind_eq_some_iff.mp h
  obtain ⟨e, he, h⟩ := Option.bind_eq_some_iff.mp h
  rw [hd, Option.bind_some, he, Option.bind_some]
  split at h
  · rename_i hc
    cases h
    rw [if_pos hc]
  · cases h
section
variable {k : Kd} {n h : Nat} {r : Rm} {jobs : Nat → Items}
def rowsF (k : Kd) (n : Nat) (f : Nat → Row) : List D := (List.range n).map fun i => encRow k (f i)
theorem rowsF_set {f : Nat → Row} {q : Row} : (rowsF k n f).set h (encRow k q) = rowsF k n (upd1 f h q) := by
  unfold rowsF
  apply List.ext_getElem?
  intro a
  rw [List.getElem?_set]
  by_cases e : h = a
  · subst e
    rw [if_pos rfl, List.length_map, List.length_range]
    by_cases ha : h < n
    · rw [if_pos ha, List.getElem?_map, List.getElem?_range ha]
      show _ = some (encRow k (upd1 f h q h))
      unfold upd1
      rw [if_pos rfl]
    · rw [if_neg ha, List.getElem?_eq_none (by rw [List.length_map, List.length_range]; omega)]
  · rw [if_neg e, List.getElem?_map, List.getElem?_map]
    by_cases ha : a < n
    · rw [List.getElem?_range ha]
      show some (encRow k (f a)) = some (encRow k (upd1 f h q a))
      unfold upd1
      rw [if_neg (fun z => e z.symm)]
    · rw [List.getElem?_eq_none (by rw [List.length_range]; omega)] <;> rfl
theorem isW_cEq {s : Stp} (ok : stpOk k n s) {env : List Vl} {i : Nat} (he : eVar i env = some (.d (encStp k h s))) : cEq (eIx (eVar i) (eD (.int 0))) (eD (.str "write")) env = some (isWrite s) := by
  cases s with
  | rdO j => exact cEq_s (a := "read") (b := "write") false (eIx_at (j := 0) he rfl rfl rfl) rfl
  | rdS i j => exact cEq_s (a := "read") (b := "write") false (eIx_at (j := 0) he rfl rfl rfl) rfl
  | wrS i j x => exact cEq_s (a := "write") (b := "write") true (eIx_at (j := 0) he rfl rfl rfl) rfl
  | wrO x => exact cEq_s (a := "write") (b := "write") true (eIx_at (j := 0) he rfl rfl rfl) rfl
  | told st => exact absurd ok id
  | fin => exact absurd ok id
theorem f_stepped_end {d : Deed} (ok : StepOk k n jobs r h d) : ∃ r2 x, stepped ⟨n, k⟩ jobs r h = some (r2, d, x) ∧
    F_stepped_end [.d (encMan' n k), .d (encJobs n jobs), .d (encRoom k n r), .d (nI h)] = some (.d (.tup [encRoom k n r2, endD h d (sinceBegin n r h d) x])) := by
  have fo := f_own_row ok
  obtain ⟨hn, hh, kk, hdeed, hitems, htold, hreads, hsince, hrds, hstp, hrds2⟩ := ok
  have es : ∃ s, s = nextStep k n h d (manyAt (jobs h) (r.row h).told.length) (r.row h).reads := ⟨_, rfl⟩
  obtain ⟨s, es⟩ := es
  rw [← es] at fo hstp
  have ex : ∃ x, x = ended k n h d (manyAt (jobs h) (r.row h).told.length) s ((r.row h).reads ++ [(effect r h s).2]) := ⟨_, rfl⟩
  obtain ⟨x, ex⟩ := ex
  rw [← ex] at fo
  let since := sinceBegin n r h d
  let rs := (r.row h).reads ++ [(effect r h s).2]
  let nr := newRow (r.row h) rs since x
  let row0 : Nat → Row := if isWrite s then fun i => withState (r.row i) (state n (effect r h s).1) else r.row
  let r2 : Rm := { (effect r h s).1 with row := upd1 row0 h nr }
  refine ⟨r2, x, ?_, ?_⟩
  · unfold stepped
    rw [hdeed]
    show (match ended k n h d (manyAt (jobs h) (r.row h).told.length) (nextStep k n h d (manyAt (jobs h) (r.row h).told.length) (r.row h).reads) ((r.row h).reads ++ [(effect r h (nextStep k n h d (manyAt (jobs h) (r.row h).told.length) (r.row h).reads)).2]) with | none => _ | some y => _) = _
    rw [← es, ← ex]
    show _ = some (({ (effect r h s).1 with row := upd1 row0 h (newRow (r.row h) rs since x) } : Rm), d, x)
    cases x with
    | none => rfl
    | some y => rfl
  let M : D := encMan' n k
  let J : D := encJobs n jobs
  let R : D := encRoom k n r
  let ED : D := endD h d since x
  have ft := f_there (k := k) (n := n) (h := h) (r := r) (jobs := jobs) hh (htold h hh) (hitems h hh)
  rw [hdeed] at ft
  have a4 : sAsg 4 (eCall 3 F_deed_there (aCons (eVar 1) (aCons (eVar 2) (aCons (eVar 3) aNil)))) [.d M, .d J, .d R, .d (nI h), .un, .un, .un, .un, .un, .un, .un, .un] = some (.nx [.d M, .d J, .d R, .d (nI h), .d (encDeed h d), .un, .un, .un, .un, .un, .un, .un]) := sAsg_d (eCall_ok (v := .d (encDeed h d)) (vals := [.d J, .d R, .d (nI h)]) rfl ft)
  have c4 : cIsN (eVar 4) (eD .non) [.d M, .d J, .d R, .d (nI h), .d (encDeed h d), .un, .un, .un, .un, .un, .un, .un] = some false := cIsN_c rfl (by cases d <;> rfl)
  have u : sUnp [5, 6, 7] (eCall 5 F_own_row (aCons (eVar 0) (aCons (eVar 1) (aCons (eVar 2) (aCons (eVar 3) (aCons (eVar 4) aNil)))))) [.d M, .d J, .d R, .d (nI h), .d (encDeed h d), .un, .un, .un, .un, .un, .un, .un] = some (.nx [.d M, .d J, .d R, .d (nI h), .d (encDeed h d), .d (encRow k nr), .d (encStp k h s), .d ED, .un, .un, .un, .un]) :=
    sUnp_ok (v := .d (.tup [encRow k nr, encStp k h s, ED])) (xs := [encRow k nr, encStp k h s, ED]) (eCall_ok (v := .d (.tup [encRow k nr, encStp k h s, ED])) (vals := [.d M, .d J, .d R, .d (nI h), .d (encDeed h d)]) rfl fo) rfl rfl
  have fb := f_behind (k := k) (n := n) (h := h) (r := r) hn hh hstp
  let B : D := .tp (boxesD k n (effect r h s).1)
  have a8 : sAsg 8 (eCall 2 F_boxes_behind (aCons (eIx (eVar 2) (eD (.int 0))) (aCons (eVar 6) aNil))) [.d M, .d J, .d R, .d (nI h), .d (encDeed h d), .d (encRow k nr), .d (encStp k h s), .d ED, .un, .un, .un, .un] = some (.nx [.d M, .d J, .d R, .d (nI h), .d (encDeed h d), .d (encRow k nr), .d (encStp k h s), .d ED, .d B, .un, .un, .un]) :=
    sAsg_d (eCall_ok (v := .d B) (vals := [.d (.tp (boxesD k n r)), .d (encStp k h s)]) (aCons_ok (eIx_at (j := 0) rfl rfl rfl rfl) (aCons_ok rfl aNil_ok)) fb)
  have a9 : sAsg 9 (eB1 gLstT (aCons (eIx (eVar 2) (eD (.int 1))) aNil)) [.d M, .d J, .d R, .d (nI h), .d (encDeed h d), .d (encRow k nr), .d (encStp k h s), .d ED, .d B, .un, .un, .un] = some (.nx [.d M, .d J, .d R, .d (nI h), .d (encDeed h d), .d (encRow k nr), .d (encStp k h s), .d ED, .d B, .o (rowsF k n r.row), .un, .un]) :=
    sAsg_o ((eB1_ok (h := gLstT) (a := .d (.tup (rowsD k n r))) (eIx_at (j := 1) rfl rfl rfl rfl)).trans rfl)
  have cw : ∀ e : List Vl, e[0]? = some (.d M) → eVar 6 e = some (.d (encStp k h s)) → cAnd (cNe (eIx (eVar 0) (eD (.int 0))) (eD (.str "tables"))) (cEq (eIx (eVar 6) (eD (.int 0))) (eD (.str "write"))) e = some (isWrite s) := fun e h1 h2 => cAnd_t (cNe_of (c_tables (k := k) (n := n) h1)) (isW_cEq (h := h) hstp h2)
  have mid : ∃ st10, sIf (cAnd (cNe (eIx (eVar 0) (eD (.int 0))) (eD (.str "tables"))) (cEq (eIx (eVar 6) (eD (.int 0))) (eD (.str "write")))) (sSeq (sAsg 10 (eCall 2 F_state_of (aCons (eVar 0) (aCons (eTup (aCons (eVar 8) (aCons (eIx (eVar 2) (eD (.int 1))) aNil))) aNil)))) (sAsg 9 (eLc (sLst (eVar 9)) (gN 11) cYes (eCall 2 F_with_state (aCons (eVar 11) (aCons (eVar 10) aNil))) [11]))) sNil
      [.d M, .d J, .d R, .d (nI h), .d (encDeed h d), .d (encRow k nr), .d (encStp k h s), .d ED, .d B, .o (rowsF k n r.row), .un, .un] = some (.nx [.d M, .d J, .d R, .d (nI h), .d (encDeed h d), .d (encRow k nr), .d (encStp k h s), .d ED, .d B, .o (rowsF k n row0), st10, .un]) := by
    cases hw : isWrite s with
    | false =>
      have e0 : row0 = r.row := by show (if isWrite s = true then _ else r.row) = r.row; rw [hw] <;> rfl
      rw [e0]
      exact ⟨.un, sIf_f ((cw _ rfl rfl).trans (congrArg some hw)) sNil_nx⟩
    | true =>
      let st := state n (effect r h s).1
      have e0 : row0 = fun i => withState (r.row i) st := by show (if isWrite s = true then _ else r.row) = _; rw [hw] <;> rfl
      rw [e0]
      have fs := f_state (k := k) (n := n) (r := (effect r h s).1) (rows := .tup (rowsD k n r)) hn
      let E : List Vl := [.d M, .d J, .d R, .d (nI h), .d (encDeed h d), .d (encRow k nr), .d (encStp k h s), .d ED, .d B, .o (rowsF k n r.row), .d (tInts st), .un]
      have b1 : sAsg 10 (eCall 2 F_state_of (aCons (eVar 0) (aCons (eTup (aCons (eVar 8) (aCons (eIx (eVar 2) (eD (.int 1))) aNil))) aNil))) [.d M, .d J, .d R, .d (nI h), .d (encDeed h d), .d (encRow k nr), .d (encStp k h s), .d ED, .d B, .o (rowsF k n r.row), .un, .un] = some (.nx E) :=
        sAsg_d (eCall_ok (v := .d (tInts st)) (vals := [.d M, .d (roomD k n (effect r h s).1 (.tup (rowsD k n r)))]) (aCons_ok rfl (aCons_ok (eTup_ok (ds := [B, .tup (rowsD k n r)]) (aCons_ok rfl (aCons_ok (eIx_at (j := 1) rfl rfl rfl rfl) aNil_ok)) rfl (by simp)) aNil_ok)) fs)
      have lc := lc_all (src := sLst (eVar 9)) (gd := gN 11) (test := cYes) (elt := eCall 2 F_with_state (aCons (eVar 11) (aCons (eVar 10) aNil))) (vs := [11]) (env := E) (l := List.range n) (fun i => encRow k (r.row i)) (fun _ => true) (fun i => encRow k (withState (r.row i) st)) rfl (by rw [List.length_range]; omega) fun i hi => ⟨_, rfl, rfl, fun _ => eCall_ok (v := .d (encRow k (withState (r.row i) st))) (vals := [.d (encRow k (r.row i)), .d (tInts st)]) rfl (f_with k (r.row i) st (by have := hsince i (List.mem_range.mp hi); omega))⟩
      rw [List.filter_eq_self.mpr fun _ _ => rfl] at lc
      exact ⟨.d (tInts st), sIf_t ((cw _ rfl rfl).trans (congrArg some hw)) (sSeq_nx b1 (sAsg_o lc))⟩
  obtain ⟨st10, mid⟩ := mid
  have put : sPut 9 (eVar 5) (eVar 3) [.d M, .d J, .d R, .d (nI h), .d (encDeed h d), .d (encRow k nr), .d (encStp k h s), .d ED, .d B, .o (rowsF k n row0), st10, .un] = some (.nx [.d M, .d J, .d R, .d (nI h), .d (encDeed h d), .d (encRow k nr), .d (encStp k h s), .d ED, .d B, .o (rowsF k n (upd1 row0 h nr)), st10, .un]) := by
    have q := sPut_ok (fe := eVar 5) (fi := eVar 3) (env := [.d M, .d J, .d R, .d (nI h), .d (encDeed h d), .d (encRow k nr), .d (encStp k h s), .d ED, .d B, .o (rowsF k n row0), st10, .un]) (i := 9) (j := h) (xs := rowsF k n row0) (y := encRow k nr) rfl rfl rfl (by unfold rowsF; rw [List.length_map, List.length_range]; exact hh)
    rw [rowsF_set] at q
    exact q
  have fin : eTup (aCons (eTup (aCons (eVar 8) (aCons (eB1 gTupL (aCons (eVar 9) aNil)) aNil))) (aCons (eVar 7) aNil)) [.d M, .d J, .d R, .d (nI h), .d (encDeed h d), .d (encRow k nr), .d (encStp k h s), .d ED, .d B, .o (rowsF k n (upd1 row0 h nr)), st10, .un] = some (.d (.tup [.tup [B, .tup (rowsF k n (upd1 row0 h nr))], ED])) :=
    eTup_ok (aCons_ok (eTup_ok (ds := [B, .tup (rowsF k n (upd1 row0 h nr))]) (aCons_ok rfl (aCons_ok ((eB1_ok (h := gTupL) (a := .u (rowsF k n (upd1 row0 h nr))) rfl).trans rfl) aNil_ok)) rfl (by simp)) (aCons_ok rfl aNil_ok)) rfl (by simp)
  have all := fnD_rt (n := 4) (m := 8) (as := [.d M, .d J, .d R, .d (nI h)]) (f := b_stepped_end) rfl (sSeq_nx a4 (sSeq_nx (sIf_f c4 sNil_nx) (sSeq_nx u (sSeq_nx a8 (sSeq_nx a9 (sSeq_nx mid (sSeq_nx put (sRet_d fin))))))))
  have er : encRoom k n r2 = .tup [B, .tup (rowsF k n (upd1 row0 h nr))] := by
    unfold encRoom roomD
    have e1 : boxesD k n r2 = boxesD k n (effect r h s).1 := by
      unfold boxesD
      apply List.map_congr_left
      intro b _
      cases b <;> rfl
    rw [e1] <;> rfl
  rw [er]
  exact all
theorem f_stepped {d : Deed} (ok : StepOk k n jobs r h d) : ∃ r2 x, stepped ⟨n, k⟩ jobs r h = some (r2, d, x) ∧ F_stepped [.d (encMan' n k), .d (encJobs n jobs), .d (encRoom k n r), .d (nI h)] = some (.d (encRoom k n r2)) := by
  obtain ⟨r2, x, e, f⟩ := f_stepped_end ok
  exact ⟨r2, x, e, fnD_rt rfl (sRet_d (eIx_at (j := 0) (eCall_ok (v := .d (.tup [encRoom k n r2, endD h d (sinceBegin n r h d) x])) (vals := [.d (encMan' n k), .d (encJobs n jobs), .d (encRoom k n r), .d (nI h)]) rfl f) rfl rfl rfl))⟩
end
end K98

/-! ## Spec18 -/
/-! The room at the beginning (18). -/
namespace K98
open PySem PySem.Spec PyProof.Rows L2
section
variable {k : Kd} {n : Nat}
theorem f_zeros (h1 : 1 ≤ n) (hn : n ≤ 900) : F_zeros [.d (nI n)] = some (.d (tInts (List.replicate n 0))) := by
  have e : eRepT (eTup (aCons (eD (.int 0)) aNil)) (eVar 0) [.d (nI n)] = some (.d (tInts (List.replicate n 0))) := by
    unfold eRepT
    refine (e2_ok (a := .d (.tup [.int 0])) (b := .d (nI n)) rfl rfl).trans ?_
    show (if 1 ≤ (n : Int) ∧ (n : Int) ≤ 1000 ∧ 0 < 1 ∧ 1 ≤ 1000 then some (Vl.d (.tup (List.replicate (n : Int).toNat [D.int 0]).flatten)) else none) = _
    rw [if_pos ⟨by omega, by omega, by omega, by omega⟩, Int.toNat_natCast, rep1]
    unfold tInts
    rw [List.map_replicate]
  exact fnD_rt rfl (sRet_d e)
theorem f_first_own (h1 : 1 ≤ n) (hn : n ≤ 900) : F_first_own [.d (encMan' n k)] = some (.d (encC k (firstC k n))) := by
  have fz : ∀ e : List Vl, e[0]? = some (.d (encMan' n k)) → eCall 1 F_zeros (aCons (eIx (eVar 0) (eD (.int 1))) aNil) e = some (.d (tInts (List.replicate n 0))) := fun e he => eCall_ok (v := .d (tInts (List.replicate n 0))) (vals := [.d (nI n)]) (aCons_ok (man1 (k := k) he) aNil_ok) (f_zeros h1 hn)
  cases k with
  | once => exact fnD_rt rfl (sSeq_rt (sIf_t (cEq_s (a := "once") (b := "once") true rfl rfl) (sRet_d rfl)))
  | twice t => exact fnD_rt rfl (sSeq_nx (sIf_f (cEq_s (a := "twice") (b := "once") false rfl rfl) sNil_nx) (sSeq_rt (sIf_t (cEq_s (a := "twice") (b := "twice") true rfl rfl) (sRet_d rfl))))
  | handed t m => exact fnD_rt rfl (sSeq_nx (sIf_f (cEq_s (a := "handed") (b := "once") false rfl rfl) sNil_nx) (sSeq_nx (sIf_f (cEq_s (a := "handed") (b := "twice") false rfl rfl) sNil_nx) (sSeq_rt (sIf_t (cEq_s (a := "handed") (b := "handed") true rfl rfl) (sRet_d (eTup_ok (ds := [.int 0, .int 0, tInts (List.replicate n 0)]) (aCons_ok rfl (aCons_ok rfl (aCons_ok (fz _ rfl) aNil_ok))) rfl (by simp)))))))
  | signs a b c => exact fnD_rt rfl (sSeq_nx (sIf_f (cEq_s (a := "signs") (b := "once") false rfl rfl) sNil_nx) (sSeq_nx (sIf_f (cEq_s (a := "signs") (b := "twice") false rfl rfl) sNil_nx) (sSeq_nx (sIf_f (cEq_s (a := "signs") (b := "handed") false rfl rfl) sNil_nx) (sRet_d (eTup_ok (ds := [.int 0, tInts (List.replicate n 0), .int 0, tInts (List.replicate n 0)]) (aCons_ok rfl (aCons_ok (fz _ rfl) (aCons_ok rfl (aCons_ok (fz _ rfl) aNil_ok)))) rfl (by simp))))))
def prRow (n i : Nat) : List D := ((List.range n).filter fun j => j != i).map fun j => .tup [kSgn i j, .int 0]
theorem prRow_len {i : Nat} : (prRow n i).length ≤ n := by
  unfold prRow
  rw [List.length_map]
  have := List.length_filter_le (fun j => j != i) (List.range n)
  rw [List.length_range] at this
  exact this
theorem f_between (hn : n ≤ 30) : F_between [.d (.str "sign"), .d (nI n)] = some (.o ((List.range n).flatMap (prRow n))) := by
  let E : List Vl := [.d (.str "sign"), .d (nI n), .o [], .un, .un]
  let body : List Vl → Option Out := sExt 2 (aCons (eLc (sRng1 (aCons (eVar 1) aNil)) (gN 4) (cNe (eVar 4) (eVar 3)) (eTup (aCons (eTup (aCons (eVar 0) (aCons (eVar 3) (aCons (eVar 4) aNil)))) (aCons (eD (.int 0)) aNil))) [4]) aNil)
  have src : sRng1 (aCons (eVar 1) aNil) E = some ((List.range n).map fun (i : Nat) => D.int (i : Int)) := sRng1_at (by omega) rfl
  have loop := forM_inv (gd := gN 3) (body := body) (fun i env => ∃ x, env = [.d (.str "sign"), .d (nI n), .o ((List.range i).flatMap (prRow n)), x, .un]) ((List.range n).map fun (i : Nat) => D.int (i : Int)) 0 E ⟨.un, rfl⟩ ?_
  · obtain ⟨e', g1, x, rfl⟩ := loop
    rw [Nat.zero_add, List.length_map, List.length_range] at g1
    have fo : sFor (sRng1 (aCons (eVar 1) aNil)) (gN 3) body E = forM (gN 3) body ((List.range n).map fun (i : Nat) => D.int (i : Int)) E := by
      unfold sFor
      rw [src, Option.bind_some]
    exact fnD_rt rfl (sSeq_nx (sAsg_o rfl) (sSeq_nx (fo.trans g1) (sRet_u rfl)))
  · rintro i d env hi ⟨x, rfl⟩
    rw [Nat.zero_add]
    have hil : i < n := by
      have := (List.getElem?_eq_some_iff.mp hi).1
      simpa using this
    rw [List.getElem?_map, List.getElem?_range hil] at hi
    cases hi
    have lc := lc_rng (fa := eVar 1) (test := cNe (eVar 4) (eVar 3)) (elt := eTup (aCons (eTup (aCons (eVar 0) (aCons (eVar 3) (aCons (eVar 4) aNil)))) (aCons (eD (.int 0)) aNil))) (i := 4) (vs := [4]) (env := [.d (.str "sign"), .d (nI n), .o ((List.range i).flatMap (prRow n)), .d (nI i), .un]) (n := n) (fun j => j != i) (fun j => .tup [kSgn i j, .int 0]) (by omega) rfl fun j hj => ⟨by
      rw [cNe_int (a := (j : Int)) (b := (i : Int)) rfl rfl]
      by_cases e : j = i
      · subst e; simp
      · have : ¬ ((j : Int) = (i : Int)) := by omega
        simp [e, this], fun _ => rfl⟩
    refine ⟨_, _, rfl, sExt_ok (xs := (List.range i).flatMap (prRow n)) (ys := prRow n i) (v := .o (prRow n i)) rfl (aCons_ok lc aNil_ok) rfl ?_, ?_⟩
    · have h1 := flat_len (prRow n) (n := n) (fun i => prRow_len) i
      have h2 := prRow_len (n := n) (i := i)
      have h3 : i * n ≤ 30 * 30 := Nat.mul_le_mul (by omega) hn
      omega
    · rw [flat_succ]
      exact ⟨_, rfl⟩
theorem prs_rows (r : Rm) (hr : ∀ i j, r.sgn i j = 0) : ((prs n).map fun p => (.inr p : BK)).map (fun b => D.tup [keyD b, contD k r b]) = (List.range n).flatMap (prRow n) := by
  unfold prs prRow
  rw [List.map_map, List.map_flatMap]
  congr 1
  funext i
  rw [List.map_map]
  apply List.map_congr_left
  intro j _
  show D.tup [kSgn i j, .int (r.sgn i j)] = _
  rw [hr]
theorem shp_cont (r : Rm) (b : BK) : SeqAt.shaped (pd (contD k r b)) = true := by
  have h : PyData.canLay0 (pd (contD k r b)) = true ∧ PyData.depth (pd (contD k r b)) ≤ 2 := by
    cases b with
    | inl j => exact encC_lay k (r.own j)
    | inr p => exact ⟨rfl, Nat.zero_le _⟩
  show (PyData.canLay0 (pd (contD k r b)) && decide (PyData.depth (pd (contD k r b)) ≤ 64)) = true
  rw [h.1, decide_eq_true (by omega)] <;> rfl
theorem f_sort (hn : n ≤ 5) (r : Rm) {fa : List Vl → Option Vl} {env : List Vl} (h : fa env = some (.u (boxesD k n r))) : eB1 gSortP (aCons fa aNil) env = some (.o (boxesD k n r)) := by
  rw [eB1_ok h]
  unfold gSortP
  have c : riseB (((bkeys (hasS k) n).map fun b => (keyK b, contD k r b)).map (·.1)) = true ∧ (((bkeys (hasS k) n).map fun b => (keyK b, contD k r b)).all fun kd => SeqAt.shaped (pd kd.2)) = true := by
    refine ⟨?_, ?_⟩
    · rw [List.map_map]
      exact riseK (hasS k) hn
    · rw [List.all_map, List.all_eq_true]
      intro b _
      exact shp_cont r b
  rw [show lstOf (.u (boxesD k n r)) = some (boxesD k n r) from rfl, Option.bind_some, show pairsD (boxesD k n r) = some ((bkeys (hasS k) n).map fun b => (keyK b, contD k r b)) from prsD k r _, Option.bind_some, if_pos c]
theorem f_first_boxes (h1 : 1 ≤ n) (hn : n ≤ 5) (kk : KdOk k) : F_first_boxes [.d (encMan' n k)] = some (.d (.tp (boxesD k n (begun k n)))) := by
  let M : D := encMan' n k
  have a1 : sAsg 1 (eCall 1 F_hands_of (aCons (eVar 0) aNil)) [.d M, .un, .un, .un, .un, .un] = some (.nx [.d M, .d (nI n), .un, .un, .un, .un]) := sAsg_d (eCall_ok (v := .d (nI n)) (vals := [.d M]) rfl (f_hands k n))
  let E : List Vl := [.d M, .d (nI n), .un, .un, .un, .un]
  let own : List D := (List.range n).map fun j => D.tup [kOwn j, encC k (firstC k n)]
  have lc := lc_rng (fa := eVar 1) (test := cYes) (elt := eTup (aCons (eTup (aCons (eD (.str "own")) (aCons (eVar 4) aNil))) (aCons (eCall 1 F_first_own (aCons (eVar 0) aNil)) aNil))) (i := 4) (vs := [4]) (env := E) (n := n) (fun _ => true) (fun j => D.tup [kOwn j, encC k (firstC k n)]) (by omega) rfl fun j hj => ⟨rfl, fun _ => eTup_ok (ds := [kOwn j, encC k (firstC k n)]) (aCons_ok rfl (aCons_ok (eCall_ok (v := .d (encC k (firstC k n))) (vals := [.d M]) rfl (f_first_own h1 (by omega))) aNil_ok)) rfl (by simp)⟩
  rw [List.filter_eq_self.mpr fun _ _ => rfl] at lc
  have a2 : sAsg 2 (eLc (sRng1 (aCons (eVar 1) aNil)) (gN 4) cYes (eTup (aCons (eTup (aCons (eD (.str "own")) (aCons (eVar 4) aNil))) (aCons (eCall 1 F_first_own (aCons (eVar 0) aNil)) aNil))) [4]) E = some (.nx [.d M, .d (nI n), .o own, .un, .un, .un]) := sAsg_o lc
  let E2 : List Vl := [.d M, .d (nI n), .o own, .un, .un, .un]
  have fin : ∀ bs : List D, bs = boxesD k n (begun k n) → sRet (eB1 gTupP (aCons (eB1 gSortP (aCons (eVar 2) aNil)) aNil)) [.d M, .d (nI n), .o bs, .un, .un, .un] = some (.rt (.d (.tp (boxesD k n (begun k n))))) := fun bs hb => by
    subst hb
    exact sRet_d ((eB1_ok (h := gTupP) (f_sort hn (begun k n) rfl)).trans rfl)
  have ext : ∃ bs, bs = boxesD k n (begun k n) ∧ sIf (cAnd (cEq (eIx (eVar 0) (eD (.int 0))) (eD (.str "signs"))) (cEq (eCall 1 F_shakes_of (aCons (eVar 0) aNil)) (eD (.int 1)))) (sExt 2 (aCons (eCall 2 F_between (aCons (eD (.str "sign")) (aCons (eVar 1) aNil))) aNil)) sNil E2 = some (.nx [.d M, .d (nI n), .o bs, .un, .un, .un]) := by
    have plain : hasS k = false → own = boxesD k n (begun k n) := fun hs => by
      unfold boxesD bkeys
      rw [hs]
      show own = ((List.range n).map Sum.inl ++ []).map _
      rw [List.append_nil, List.map_map] <;> rfl
    cases k with
    | once => exact ⟨own, plain rfl, sIf_f (cAnd_f (cEq_s (a := "once") (b := "signs") false rfl rfl)) sNil_nx⟩
    | twice t => exact ⟨own, plain rfl, sIf_f (cAnd_f (cEq_s (a := "twice") (b := "signs") false rfl rfl)) sNil_nx⟩
    | handed t m => exact ⟨own, plain rfl, sIf_f (cAnd_f (cEq_s (a := "handed") (b := "signs") false rfl rfl)) sNil_nx⟩
    | signs tg sh mv =>
      have fs : F_shakes_of [.d (encMan' n (.signs tg sh mv))] = some (.d (nI sh)) := rfl
      have c2 : cEq (eCall 1 F_shakes_of (aCons (eVar 0) aNil)) (eD (.int 1)) E2 = some (decide (sh = 1)) := by
        have q : eCall 1 F_shakes_of (aCons (eVar 0) aNil) E2 = some (.d (nI sh)) := eCall_ok (v := .d (nI sh)) (vals := [.d M]) rfl fs
        exact (cEq_int q rfl).trans (congrArg some (decide_eq_decide.mpr (by omega)))
      by_cases hs : sh = 1
      · refine ⟨own ++ (List.range n).flatMap (prRow n), ?_, sIf_t (cAnd_t (cEq_s (a := "signs") (b := "signs") true rfl rfl) (c2.trans (congrArg some (decide_eq_true hs)))) (sExt_ok (xs := own) (ys := (List.range n).flatMap (prRow n)) (v := .o ((List.range n).flatMap (prRow n))) rfl (aCons_ok (eCall_ok (v := .o ((List.range n).flatMap (prRow n))) (vals := [.d (.str "sign"), .d (nI n)]) rfl (f_between (by omega))) aNil_ok) rfl ?_)⟩
        · unfold boxesD bkeys
          rw [show hasS (.signs tg sh mv) = true from decide_eq_true hs, if_pos rfl, List.map_append, prs_rows (k := .signs tg sh mv) (begun (.signs tg sh mv) n) (fun _ _ => rfl), List.map_map] <;> rfl
        · have h1 := flat_len (prRow n) (n := n) (fun i => prRow_len) n
          have h3 : n * n ≤ 5 * 5 := Nat.mul_le_mul hn hn
          have h4 : own.length = n := by show ((List.range n).map _).length = n; rw [List.length_map, List.length_range]
          omega
      · exact ⟨own, plain (decide_eq_false hs), sIf_f (cAnd_t (cEq_s (a := "signs") (b := "signs") true rfl rfl) (c2.trans (congrArg some (decide_eq_false hs)))) sNil_nx⟩
  obtain ⟨bs, hb, ext⟩ := ext
  exact fnD_rt rfl (sSeq_nx a1 (sSeq_nx (sIf_f (c_tables (k := k) (n := n) rfl) sNil_nx) (sSeq_nx (sIf_f (c_shared (k := k) (n := n) rfl) sNil_nx) (sSeq_nx a2 (sSeq_nx ext (fin bs hb))))))
theorem f_begun (h1 : 1 ≤ n) (hn : n ≤ 5) (kk : KdOk k) (jobs : Nat → Items) : F_begun [.d (encMan' n k), .d (encJobs n jobs)] = some (.d (encRoom k n (begun k n))) := by
  have lc := lc_all (src := sTup (eVar 1)) (gd := gN 2) (test := cYes) (elt := eCall 0 F_first_row aNil) (vs := [2]) (env := [.d (encMan' n k), .d (encJobs n jobs), .un]) (l := List.range n) (fun i => encJob (jobs i)) (fun _ => true) (fun i => encRow k ⟨[], [], []⟩) rfl (by rw [List.length_range]; omega) fun i hi => ⟨_, rfl, rfl, fun _ => eCall_ok (v := .d (.tup [.tup [], .tup [], .tup []])) (vals := []) rfl rfl⟩
  rw [List.filter_eq_self.mpr fun _ _ => rfl] at lc
  exact fnD_rt rfl (sRet_d (eTup_ok (ds := [.tp (boxesD k n (begun k n)), .tup (rowsD k n (begun k n))]) (aCons_ok (eCall_ok (v := .d (.tp (boxesD k n (begun k n)))) (vals := [.d (encMan' n k)]) rfl (f_first_boxes h1 hn kk)) (aCons_ok ((eB1_ok (h := gTupL) lc).trans rfl) aNil_ok)) rfl (by simp)))
end
end K98

/-! ## Inv -/
/-! What holds of every room of a run. -/
namespace K98
def contOk (k : Kd) (n : Nat) (c : C) : Prop := match k with
  | .signs _ _ _ => c.calls.length = n ∧ c.view.length = n
  | _ => True
def notTold : Stp → Prop
  | .told _ => False
  | .fin => False
  | _ => True
/-- the deed under way has read what it may and is not told yet -/
structure RowOk (k : Kd) (n : Nat) (items : Items) (h : Nat) (q : Row) : Prop where
  told : q.told.length ≤ items.length
  rds : ∀ d, deedAt items q.told.length = some d → RdsOk k n d q.reads
  nt : ∀ d, deedAt items q.told.length = some d → notTold (nextStep k n h d (manyAt items q.told.length) q.reads)
structure RmOk (k : Kd) (n : Nat) (jobs : Nat → Items) (r : Rm) (T : Nat) : Prop where
  cont : ∀ j, contOk k n (r.own j)
  row : ∀ i, i < n → RowOk k n (jobs i) i (r.row i)
  reads : ∀ i, (r.row i).reads.length ≤ T
  since : ∀ i, (r.row i).since.length ≤ T + 1
theorem isS_of {k : Kd} {n tg sh mv : Nat} {rs : List Rd} {i : Nat} {c : C} (h : rs[i]? = some (.c c)) (hc : contOk (.signs tg sh mv) n c) : isS n rs i := ⟨c, h, hc.1, hc.2⟩
theorem goOn_of {h n tg sh mv : Nat} {rs : List Rd} (hn : notTold (lookSigns h n tg sh mv rs)) : lookSigns h n tg sh mv rs = goOnS h n sh rs := by
  unfold lookSigns at hn ⊢
  split at hn
  · split at hn
    · exact absurd hn id
    · split at hn
      · exact absurd hn id
      · rename_i h1 h2 _ h3
        rw [if_pos h1, if_neg h2]
  · rename_i h1
    rw [if_neg h1]
/-- a look of signs goes on: its reads stay of their kinds -/
theorem sFull_go {h n tg sh mv : Nat} {rs : List Rd} {r : Rm} (ok : sFull n sh rs) (hc : ∀ j, contOk (.signs tg sh mv) n (r.own j)) : sFull n sh (rs ++ [(effect r h (goOnS h n sh rs)).2]) := by
  have key : ∀ i, i < (rs ++ [(effect r h (goOnS h n sh rs)).2]).length → (i < rs.length ∧ (rs ++ [(effect r h (goOnS h n sh rs)).2])[i]? = rs[i]?) ∨ (i = rs.length ∧ (rs ++ [(effect r h (goOnS h n sh rs)).2])[i]? = some (effect r h (goOnS h n sh rs)).2) := fun i hi => by
    rw [List.length_append] at hi
    have hi : i < rs.length + 1 := hi
    by_cases e : i < rs.length
    · exact .inl ⟨e, List.getElem?_append_left e⟩
    · have e2 : i = rs.length := by omega
      subst e2
      exact .inr ⟨rfl, by rw [List.getElem?_append_right (Nat.le_refl _), Nat.sub_self] <;> rfl⟩
  refine ⟨fun i hi hcase => ?_, fun i hi h1 h2 => ?_⟩
  · rcases key i hi with ⟨hl, e⟩ | ⟨rfl, e⟩
    · obtain ⟨c, e1, q⟩ := ok.1 i hl hcase
      exact ⟨c, by rw [e]; exact e1, q⟩
    · have : ∃ j, goOnS h n sh rs = .rdO j := by
        unfold goOnS
        split
        · split
          · exact ⟨_, rfl⟩
          · exfalso; omega
        · exact ⟨_, rfl⟩
      obtain ⟨j, ej⟩ := this
      rw [ej] at e ⊢
      exact ⟨r.own j, e, hc j⟩
  · rcases key i hi with ⟨hl, e⟩ | ⟨rfl, e⟩
    · rw [e]; exact ok.2 i hl h1 h2
    · have : ∃ a b c, goOnS h n sh rs = .wrS a b c := by
        unfold goOnS
        rw [if_pos h1, if_neg (by omega)]
        exact ⟨_, _, _, rfl⟩
      obtain ⟨a, b, c, ej⟩ := this
      rw [ej] at e ⊢
      exact e
theorem sFull_nil {n sh : Nat} : sFull n sh [] := ⟨fun i hi => by simp at hi, fun i hi => by simp at hi⟩
theorem allC_snoc {rs : List Rd} {c : C} (h : allC rs) : allC (rs ++ [.c c]) := fun i hi => by
  rw [List.length_append] at hi
  have hi : i < rs.length + 1 := hi
  by_cases e : i < rs.length
  · obtain ⟨d, e1⟩ := h i e
    exact ⟨d, by rw [List.getElem?_append_left e]; exact e1⟩
  · have e2 : i = rs.length := by omega
    subst e2
    exact ⟨c, by rw [List.getElem?_append_right (Nat.le_refl _), Nat.sub_self] <;> rfl⟩
/-- the reads stay of their kinds while the deed goes on -/
theorem rds_go {k : Kd} {n h many : Nat} {d : Deed} {rs : List Rd} {r : Rm} (ok : RdsOk k n d rs) (hc : ∀ j, contOk k n (r.own j)) (nt : notTold (nextStep k n h d many rs)) (nw : ∀ x, nextStep k n h d many rs ≠ .wrO x) : RdsOk k n d (rs ++ [(effect r h (nextStep k n h d many rs)).2]) := by
  cases k with
  | once =>
    cases d with
    | look =>
      have nt : notTold (lookOnce n rs) := nt
      show RdsOk .once n .look (rs ++ [(effect r h (lookOnce n rs)).2])
      unfold lookOnce at nt ⊢
      split at nt
      · rename_i h1
        rw [if_pos h1]
        exact ⟨allC_snoc ok.1, by rw [List.length_append]; exact h1⟩
      · exact absurd nt id
    | put v => exact absurd rfl (nw _)
  | twice t =>
    cases d with
    | look =>
      have nt : notTold (lookTwice n rs) := nt
      show RdsOk (.twice t) n .look (rs ++ [(effect r h (lookTwice n rs)).2])
      unfold lookTwice at nt ⊢
      split at nt
      · exact absurd nt id
      · rename_i h1
        rw [if_neg h1]
        exact allC_snoc ok
    | put v => exact absurd rfl (nw _)
  | handed t m =>
    have key : ∃ j, nextStep (.handed t m) n h d many rs = .rdO j := by
      cases d with
      | look =>
        rcases lookHanded_cases n m rs with ⟨st, e⟩ | ⟨j, e⟩
        · have nt : notTold (lookHanded n m rs) := nt
          rw [e] at nt
          exact absurd nt id
        · exact ⟨j, e⟩
      | put v =>
        rcases lookHanded_cases n m rs with ⟨st, e⟩ | ⟨j, e⟩
        · exact absurd (by simp only [nextStep, putOf, e]) (nw ⟨v, numOf t many, 0, [], st⟩)
        · exact ⟨j, by simp only [nextStep, putOf, e]⟩
    obtain ⟨j, e⟩ := key
    rw [e]
    exact allC_snoc ok
  | signs tg sh mv =>
    cases d with
    | look =>
      have nt : notTold (lookSigns h n tg sh mv rs) := nt
      show sFull n sh (rs ++ [(effect r h (lookSigns h n tg sh mv rs)).2])
      rw [goOn_of nt]
      exact sFull_go ok hc
    | put v =>
      obtain ⟨hb, hf⟩ := ok
      by_cases h1 : rs.length < sh * (n - 1)
      · have e : nextStep (.signs tg sh mv) n h (.put v) many rs = .rdS ((others h n).getD rs.length 0) h := by
          simp only [nextStep, putOf, if_pos h1]
        rw [e]
        refine ⟨fun i hi h2 => ?_, ?_⟩
        · rw [List.length_append] at hi
          have hi : i < rs.length + 1 := hi
          by_cases e : i < rs.length
          · obtain ⟨b, e1⟩ := hb i e h2
            exact ⟨b, by rw [List.getElem?_append_left e]; exact e1⟩
          · have e2 : i = rs.length := by omega
            subst e2
            exact ⟨_, by rw [List.getElem?_append_right (Nat.le_refl _), Nat.sub_self] <;> rfl⟩
        · rw [List.drop_of_length_le (by rw [List.length_append]; exact h1)]
          exact sFull_nil
      · have nl : notTold (lookSigns h n tg sh mv (rs.drop (sh * (n - 1)))) ∧ nextStep (.signs tg sh mv) n h (.put v) many rs = lookSigns h n tg sh mv (rs.drop (sh * (n - 1))) := by
          rcases lookSigns_cases (h := h) (n := n) (tg := tg) (sh := sh) (mv := mv) (rs := rs.drop (sh * (n - 1))) with ⟨st, e⟩ | ⟨j, e⟩ | ⟨i, j, x, e⟩
          · exfalso
            refine nw ⟨v, 0, (tg : Int) * (((many : Int) + 1) % 2), callsOf h n sh (rs.take (sh * (n - 1))), st⟩ ?_
            simp only [nextStep, putOf, if_neg h1, e]
          · rw [e]
            exact ⟨trivial, by simp only [nextStep, putOf, if_neg h1, e]⟩
          · rw [e]
            exact ⟨trivial, by simp only [nextStep, putOf, if_neg h1, e]⟩
        rw [nl.2, goOn_of nl.1]
        refine ⟨fun i hi h2 => ?_, ?_⟩
        · have hi2 : i < rs.length := by omega
          obtain ⟨b, e1⟩ := hb i hi2 h2
          exact ⟨b, by rw [List.getElem?_append_left hi2]; exact e1⟩
        · rw [List.drop_append_of_le_length (by omega)]
          exact sFull_go hf hc
end K98

/-! ## Inv2 -/
/-! What holds of every room of a run (2). -/
namespace K98
theorem others_getD {h n i : Nat} (hh : h < n) (hi : i < n - 1) : (others h n).getD i 0 < n ∧ (others h n).getD i 0 ≠ h := by
  have hl : i < (others h n).length := by rw [others_len hh]; exact hi
  have e : (others h n).getD i 0 = (others h n)[i] := by rw [List.getD_eq_getElem?_getD, List.getElem?_eq_getElem hl] <;> rfl
  have m : (others h n)[i] ∈ others h n := List.getElem_mem hl
  rw [e]
  exact ⟨others_lt m, by simpa using (List.mem_filter.mp m).2⟩
theorem shk_sh {n sh p : Nat} (hs : sh ≤ 1) (h : p < shk n sh) : sh = 1 ∧ p / 2 < n - 1 := by
  unfold shk at h
  rcases (show sh = 0 ∨ sh = 1 by omega) with e | e
  · subst e; omega
  · subst e; exact ⟨rfl, by omega⟩
theorem goOn_ok {tg sh mv h n : Nat} {rs : List Rd} (hh : h < n) (hs : sh ≤ 1) : stpOk (.signs tg sh mv) n (goOnS h n sh rs) := by
  unfold goOnS
  by_cases h1 : rs.length % rnd n sh < shk n sh
  · rw [if_pos h1]
    obtain ⟨e, h2⟩ := shk_sh hs h1
    obtain ⟨g1, g2⟩ := others_getD hh h2
    split
    · exact g1
    · exact ⟨decide_eq_true e, hh, g1, g2⟩
  · rw [if_neg h1]
    exact Nat.mod_lt _ (by omega)
theorem stp_ok {k : Kd} {n h many : Nat} {d : Deed} {rs : List Rd} (hh : h < n) (kk : KdOk k) (ok : RdsOk k n d rs) (nt : notTold (nextStep k n h d many rs)) : stpOk k n (nextStep k n h d many rs) := by
  have hn : 0 < n := by omega
  cases k with
  | once =>
    cases d with
    | look =>
      have nt : notTold (lookOnce n rs) := nt
      show stpOk .once n (lookOnce n rs)
      unfold lookOnce at nt ⊢
      split at nt
      · rename_i h1
        rw [if_pos h1]
        exact h1
      · exact absurd nt id
    | put v => exact trivial
  | twice t =>
    cases d with
    | look =>
      have nt : notTold (lookTwice n rs) := nt
      show stpOk (.twice t) n (lookTwice n rs)
      unfold lookTwice at nt ⊢
      split at nt
      · exact absurd nt id
      · rename_i h1
        rw [if_neg h1]
        exact Nat.mod_lt _ hn
    | put v => exact trivial
  | handed t m =>
    have lk : notTold (lookHanded n m rs) → stpOk (.handed t m) n (lookHanded n m rs) := fun nt => by
      unfold lookHanded at nt ⊢
      split at nt
      · rename_i h1
        rw [if_pos h1]
        split at nt
        · exact absurd nt id
        · rename_i h2
          rw [if_neg h2]
          split at nt
          · exact absurd nt id
          · exact Nat.mod_lt _ hn
      · rename_i h1
        rw [if_neg h1]
        exact Nat.mod_lt _ hn
    cases d with
    | look => exact lk nt
    | put v =>
      rcases lookHanded_cases n m rs with ⟨st, e⟩ | ⟨j, e⟩
      · have e2 : nextStep (.handed t m) n h (.put v) many rs = .wrO ⟨v, numOf t many, 0, [], st⟩ := by simp only [nextStep, putOf, e]
        rw [e2]
        exact trivial
      · have e2 : nextStep (.handed t m) n h (.put v) many rs = .rdO j := by simp only [nextStep, putOf, e]
        have q := lk (by rw [e]; exact trivial)
        rw [e] at q
        rw [e2]
        exact q
  | signs tg sh mv =>
    have lk : ∀ rs, notTold (lookSigns h n tg sh mv rs) → stpOk (.signs tg sh mv) n (lookSigns h n tg sh mv rs) := fun rs nt => by
      rw [goOn_of nt]
      exact goOn_ok hh kk.2
    cases d with
    | look => exact lk rs nt
    | put v =>
      by_cases h1 : rs.length < sh * (n - 1)
      · have e : nextStep (.signs tg sh mv) n h (.put v) many rs = .rdS ((others h n).getD rs.length 0) h := by
          simp only [nextStep, putOf, if_pos h1]
        rw [e]
        have hs : sh = 1 := by
          rcases (show sh = 0 ∨ sh = 1 by have := kk.2; omega) with z | z
          · subst z; omega
          · exact z
        subst hs
        obtain ⟨g1, g2⟩ := others_getD (h := h) (n := n) (i := rs.length) hh (by omega)
        exact ⟨rfl, g1, hh, fun z => g2 z.symm⟩
      · rcases lookSigns_cases (h := h) (n := n) (tg := tg) (sh := sh) (mv := mv) (rs := rs.drop (sh * (n - 1))) with ⟨st, e⟩ | ⟨j, e⟩ | ⟨i, j, x, e⟩
        · have e2 : nextStep (.signs tg sh mv) n h (.put v) many rs = .wrO ⟨v, 0, (tg : Int) * (((many : Int) + 1) % 2), callsOf h n sh (rs.take (sh * (n - 1))), st⟩ := by simp only [nextStep, putOf, if_neg h1, e]
          rw [e2]
          exact trivial
        · have q := lk (rs.drop (sh * (n - 1))) (by rw [e]; exact trivial)
          rw [e] at q
          have e2 : nextStep (.signs tg sh mv) n h (.put v) many rs = .rdO j := by simp only [nextStep, putOf, if_neg h1, e]
          rw [e2]
          exact q
        · have q := lk (rs.drop (sh * (n - 1))) (by rw [e]; exact trivial)
          rw [e] at q
          have e2 : nextStep (.signs tg sh mv) n h (.put v) many rs = .wrS i j x := by simp only [nextStep, putOf, if_neg h1, e]
          rw [e2]
          exact q
/-- what a look of signs tells is of the length n -/
theorem told_len {h n tg sh mv : Nat} {rs : List Rd} {st : List Int} (ok : sFull n sh rs) (hn : 1 ≤ n) (e : lookSigns h n tg sh mv rs = .told st) : st.length = n := by
  have hr : rnd n sh = shk n sh + 2 * n := rfl
  have hv : ∀ p, (valsAt n rs p).length = n := fun p => by unfold valsAt; rw [List.length_map, List.length_range]
  unfold lookSigns at e
  split at e
  · rename_i h1
    split at e
    · cases e; exact hv _
    · split at e
      · rename_i j ho
        cases e
        have hj := oft_lt ho
        have hp := rnd_pos1 (n := n) (sh := sh) hn
        obtain ⟨q, hq⟩ : ∃ q, rs.length = q * rnd n sh := ⟨rs.length / rnd n sh, by rw [Nat.div_mul_cancel (Nat.dvd_of_mod_eq_zero h1.2)]⟩
        have hq1 : 1 ≤ q := by
          rcases Nat.eq_zero_or_pos q with z | z
          · rw [z, Nat.zero_mul] at hq; omega
          · exact z
        have hqq : q * rnd n sh = (q - 1) * rnd n sh + rnd n sh := by rw [← Nat.succ_mul, Nat.succ_eq_add_one, Nat.sub_add_cancel hq1]
        have e : (rs.length - n + j) % rnd n sh = shk n sh + n + j := by
          have : rs.length - n + j = (shk n sh + n + j) + rnd n sh * (q - 1) := by rw [Nat.mul_comm]; omega
          rw [this, Nat.add_mul_mod_self_left, Nat.mod_eq_of_lt (by omega)]
        exact (ok.1 _ (by omega) (.inl (by rw [e]; omega))).calls.2
      · exfalso
        unfold goOnS at e
        split at e
        · split at e <;> cases e
        · cases e
  · exfalso
    unfold goOnS at e
    split at e
    · split at e <;> cases e
    · cases e
theorem cont_wr {k : Kd} {n h many : Nat} {d : Deed} {rs : List Rd} {x : C} (hn : 1 ≤ n) (ok : RdsOk k n d rs) (e : nextStep k n h d many rs = .wrO x) : contOk k n x := by
  cases k with
  | once => exact trivial
  | twice t => exact trivial
  | handed t m => exact trivial
  | signs tg sh mv =>
    cases d with
    | look => exact absurd (show lookOf (.signs tg sh mv) n h rs = .wrO x from e) (lookOf_not _ _ _ _ _)
    | put v =>
      by_cases h1 : rs.length < sh * (n - 1)
      · simp only [nextStep, putOf, if_pos h1] at e
        cases e
      · simp only [nextStep, putOf, if_neg h1] at e
        rcases lookSigns_cases (h := h) (n := n) (tg := tg) (sh := sh) (mv := mv) (rs := rs.drop (sh * (n - 1))) with ⟨st, e1⟩ | ⟨j, e1⟩ | ⟨i, j, y, e1⟩
        · rw [e1] at e
          cases e
          exact ⟨by show (callsOf h n sh _).length = n; unfold callsOf; rw [List.length_map, List.length_range], told_len ok.2 hn e1⟩
        · rw [e1] at e; cases e
        · rw [e1] at e; cases e
/-- a new deed has read nothing and is not told -/
theorem rds_nil {k : Kd} {n : Nat} {d : Deed} : RdsOk k n d [] := by
  have ha : allC [] := fun i hi => by simp at hi
  cases k with
  | once => cases d with
    | look => exact ⟨ha, Nat.zero_le _⟩
    | put v => exact rfl
  | twice t => cases d with
    | look => exact ha
    | put v => exact rfl
  | handed t m => exact ha
  | signs a b c => cases d with
    | look => exact sFull_nil
    | put v => exact ⟨fun i hi => by simp at hi, by rw [List.drop_nil]; exact sFull_nil⟩
theorem nt_nil {k : Kd} {n h many : Nat} {d : Deed} (hn : 1 ≤ n) : notTold (nextStep k n h d many []) := by
  have lk : notTold (lookOf k n h []) := by
    have h1 := nextStep_cases (k := k) (n := n) (h := h) .look many []
    cases e : lookOf k n h [] with
    | told st => exact absurd e (lookOf_nil hn st)
    | fin => exact absurd e h1
    | _ => exact trivial
  cases d with
  | look => exact lk
  | put v =>
    have h1 := nextStep_cases (k := k) (n := n) (h := h) (.put v) many []
    cases e : nextStep k n h (.put v) many [] with
    | told st =>
      exfalso
      cases k with
      | once => cases e
      | twice t => cases e
      | handed t m =>
        simp only [nextStep, putOf] at e
        rcases lookHanded_cases n m [] with ⟨_, z⟩ | ⟨_, z⟩ <;> rw [z] at e <;> cases e
      | signs a b c =>
        simp only [nextStep, putOf] at e
        split at e
        · cases e
        · rcases lookSigns_cases (h := h) (n := n) (tg := a) (sh := b) (mv := c) (rs := ([] : List Rd).drop (b * (n - 1))) with ⟨_, z⟩ | ⟨_, z⟩ | ⟨_, _, _, z⟩ <;> rw [z] at e <;> cases e
    | fin => exact absurd e h1
    | _ => exact trivial
end K98

/-! ## Inv3 -/
/-! What holds of every room of a run (3): it begins so and stays so. -/
namespace K98
theorem rm_begun {k : Kd} {n : Nat} {jobs : Nat → Items} (hn : 1 ≤ n) : RmOk k n jobs (begun k n) 0 := by
  refine ⟨fun j => ?_, fun i _ => ⟨Nat.zero_le _, fun d _ => rds_nil, fun d _ => nt_nil hn⟩, fun i => Nat.le_refl _, fun i => Nat.zero_le _⟩
  cases k with
  | signs a b c => exact ⟨List.length_replicate, List.length_replicate⟩
  | _ => exact trivial
theorem withState_since (q : Row) (st : List Int) : (withState q st).since.length ≤ q.since.length + 1 := by
  unfold withState
  split
  · omega
  · show (q.since ++ [st]).length ≤ _
    rw [List.length_append]
    exact Nat.le_refl _
theorem sinceBegin_len {n : Nat} {r : Rm} {h : Nat} {d : Deed} {T : Nat} (hs : (r.row h).since.length ≤ T + 1) : (sinceBegin n r h d).length ≤ T + 1 := by
  unfold sinceBegin
  cases d with
  | put v => exact Nat.zero_le _
  | look =>
    show (if (r.row h).reads.isEmpty = true then [state n r] else (r.row h).since).length ≤ T + 1
    split
    · exact Nat.succ_le_succ (Nat.zero_le _)
    · exact hs
theorem stepped_since {M : Man} {jobs : Nat → Items} {r r' : Rm} {h T : Nat} {d : Deed} {x : Option (Option (List Int))}
    (e : stepped M jobs r h = some (r', d, x)) (hs : ∀ i, (r.row i).since.length ≤ T + 1) (i : Nat) : (r'.row i).since.length ≤ T + 1 + 1 := by
  have hw : ∀ (b : Bool) (st : List Int) i, ((if b = true then fun i => withState (r.row i) st else r.row) i).since.length ≤ T + 1 + 1 := fun b st i => by
    cases b with
    | true => exact Nat.le_trans (withState_since _ _) (Nat.succ_le_succ (hs i))
    | false => exact Nat.le_succ_of_le (hs i)
  unfold stepped at e
  split at e
  · cases e
  · rename_i d' hd
    simp only at e
    split at e
    · have e' := Option.some.inj e
      obtain ⟨rfl, e2⟩ := Prod.mk.inj e'
      show (upd1 (α := Row) _ h _ i).since.length ≤ _
      unfold upd1
      by_cases hi : i = h
      · rw [if_pos hi]
        exact Nat.le_succ_of_le (sinceBegin_len (hs h))
      · rw [if_neg hi]
        exact hw _ _ i
    · have e' := Option.some.inj e
      obtain ⟨rfl, e2⟩ := Prod.mk.inj e'
      show (upd1 (α := Row) _ h _ i).since.length ≤ _
      unfold upd1
      by_cases hi : i = h
      · rw [if_pos hi]
        exact Nat.zero_le _
      · rw [if_neg hi]
        exact hw _ _ i
theorem ended_wr {k : Kd} {n h many : Nat} {d : Deed} {s : Stp} {rs : List Rd} (e : ended k n h d many s rs = none) : ∀ x, s ≠ .wrO x := fun x hx => by
  subst hx
  cases e
theorem ended_nt {k : Kd} {n h many : Nat} {d : Deed} {s : Stp} {rs : List Rd} (e : ended k n h d many s rs = none) : notTold (nextStep k n h d many rs) := by
  have h1 := nextStep_cases (k := k) (n := n) (h := h) d many rs
  cases e2 : nextStep k n h d many rs with
  | told st =>
    exfalso
    unfold ended at e
    cases s <;> simp only [e2] at e <;> cases e
  | fin => exact absurd e2 h1
  | _ => exact trivial
/-- a step keeps it -/
theorem rm_step {M : Man} {jobs : Nat → Items} {r r' : Rm} {h T : Nat} {d : Deed} {x : Option (Option (List Int))} (hn : 1 ≤ M.n) (hh : h < M.n)
    (ok : RmOk M.k M.n jobs r T) (e : stepped M jobs r h = some (r', d, x)) : RmOk M.k M.n jobs r' (T + 1) := by
  obtain ⟨s, q⟩ := stepped_is e
  have rw := ok.row h hh
  refine ⟨fun j => ?_, fun i hi => ?_, fun i => ?_, stepped_since e ok.since⟩
  · rw [q.own]
    cases hs : s with
    | wrO c =>
      show contOk M.k M.n (upd1 r.own h c j)
      unfold upd1
      by_cases hj : j = h
      · rw [if_pos hj]
        exact cont_wr hn (rw.rds d q.deed) (q.stp.symm.trans hs)
      · rw [if_neg hj]
        exact ok.cont j
    | _ => exact ok.cont j
  · by_cases hi2 : i = h
    · subst hi2
      cases x with
      | none =>
        obtain ⟨e1, e2⟩ := q.goes rfl
        refine ⟨by rw [e1]; exact rw.told, fun d' hd => ?_, fun d' hd => ?_⟩
        · rw [e1] at hd
          cases q.deed.symm.trans hd
          rw [e2, q.stp]
          exact rds_go (rw.rds _ q.deed) ok.cont (rw.nt _ q.deed) (fun c => by rw [← q.stp]; exact ended_wr q.end_ c)
        · rw [e1] at hd ⊢
          cases q.deed.symm.trans hd
          rw [e2]
          exact ended_nt q.end_
      | some y =>
        obtain ⟨e1, e2⟩ := q.ends y rfl
        refine ⟨?_, fun d' hd => ?_, fun d' hd => ?_⟩
        · rw [e1, List.length_append]
          exact deedAt_lt q.deed
        · rw [e2]; exact rds_nil
        · rw [e2]; exact nt_nil hn
    · obtain ⟨e1, e2⟩ := q.other i hi2
      refine ⟨by rw [e1]; exact (ok.row i hi).told, fun d' hd => ?_, fun d' hd => ?_⟩
      · rw [e1] at hd; rw [e2]; exact (ok.row i hi).rds d' hd
      · rw [e1] at hd ⊢; rw [e2]; exact (ok.row i hi).nt d' hd
  · by_cases hi2 : i = h
    · subst hi2
      cases x with
      | none =>
        rw [(q.goes rfl).2, List.length_append]
        exact Nat.succ_le_succ (ok.reads i)
      | some y =>
        rw [(q.ends y rfl).2]
        exact Nat.zero_le _
    · rw [(q.other i hi2).2]
      exact Nat.le_succ_of_le (ok.reads i)
/-- what the step functions ask holds of a room of a run -/
theorem step_of {k : Kd} {n : Nat} {jobs : Nat → Items} {r : Rm} {h T : Nat} {d : Deed} (hn : n ≤ 5) (hh : h < n) (kk : KdOk k) (hT : T ≤ 870) (hj : ∀ i, i < n → (jobs i).length ≤ 900)
    (ok : RmOk k n jobs r T) (hd : deedAt (jobs h) (r.row h).told.length = some d) : StepOk k n jobs r h d where
  hn := hn
  hh := hh
  kk := kk
  deed := hd
  items := hj
  told := fun i hi => (ok.row i hi).told
  reads := Nat.le_trans (ok.reads h) (by omega)
  since := fun i _ => Nat.le_trans (ok.since i) (by omega)
  rds := (ok.row h hh).rds d hd
  stp := stp_ok hh kk ((ok.row h hh).rds d hd) ((ok.row h hh).nt d hd)
  rds2 := fun nw => rds_go ((ok.row h hh).rds d hd) ok.cont ((ok.row h hh).nt d hd) nw
end K98

/-! ## Bundle -/
/-! Every def's fact, from what stands behind the top. -/
namespace K98
open PySem PySem.Spec PyProof.Rows L2
theorem sc_Sums_init : FnScope ["self", "hand", "said", "told"] ["self", "hand", "said", "told"] (defScope s_Sums_init) := ⟨rfl, rfl, rfl, by decide +kernel, rfl, by decide +kernel, by decide +kernel⟩
section
variable {P : Program} {w : World} {K : PySem.W.Frag} {mg : PySem.Str → Option Value} {base : Heap}
theorem ok_Sums_init {C : Addr} (S : SumsC K mg C) : Mkr P w K mg base 1 "Sums" C "own" "said" "told" := by
  obtain ⟨ft, fd, hk, FD⟩ := S.init
  refine ⟨ft, fd, ["self", "hand", "said", "told"], hk, S.at_, FD.ok sc_Sums_init (fun vs H Q E h => ?_) (fun cdv A outer s H vs Q E hr h => ?_), FD.bindsN fun _ _ _ _ _ _ us hl => match us, hl with | [_, _, _, _], _ => rfl⟩
  · obtain ⟨x, dx, v1, v2, v3, rfl, _⟩ := h
    rfl
  · obtain ⟨x, dx, v1, v2, v3, rfl, hx, k⟩ := h
    refine ⟨_, pss_cons (ps_fld (pv 0) (pv 1) rfl) (pss_cons (ps_fld (pv 0) (pv 2) rfl) (pss_one (ps_fld (pv 0) (pv 3) rfl))), ?_⟩
    refine ⟨_, rfl, _, rfl, x, C, dx, _, rfl, hx, S.cls, S.n_own, (by show 0 < 1000; decide), _, rfl, _, rfl, x, C, dx, _, rfl, upd_same, S.cls, S.n_said, (by show 1 < 1000; decide), _, rfl, _, rfl, x, C, dx, _, rfl, upd_same, S.cls, S.n_told, (by show 2 < 1000; decide), ?_⟩
    refine k _ (fun b ob hb e => ?_) upd_same
    rw [upd_ne hb, upd_ne hb, upd_ne hb]
    exact e
theorem Fn.imp {k n : Nat} {x : PySem.Str} {F G : List Vl → Option Rt} (h : Fn P w K mg base k x n F) (hi : ∀ as r, G as = some r → F as = some r) : Fn P w K mg base k x n G := by
  obtain ⟨ft, fd, ps, h1, h2, h3, h4⟩ := h.ex
  refine ⟨ft, fd, ps, h1.imp fun vs H Q E q => ?_, h2, h3, h4⟩
  obtain ⟨hl, as, r, hv, ok, hF, q⟩ := q
  exact ⟨hl, as, r, hv, ok, hi _ _ hF, q⟩
/-- every def of the text, the law's own apart -/
structure Bun (P : Program) (w : World) (K : PySem.W.Frag) (mg : PySem.Str → Option Value) (base : Heap) (C : Addr) : Prop where
  hands_of : Fn P w K mg base 1 "hands_of" 1 F_hands_of
  places_of : Fn P w K mg base 1 "places_of" 1 F_places_of
  shakes_of : Fn P w K mg base 1 "shakes_of" 1 F_shakes_of
  deeds_done : Fn P w K mg base 5 "deeds_done" 3 F_deeds_done
  ahead_of : Fn P w K mg base 6 "ahead_of" 4 F_ahead_of
  last_collects : Fn P w K mg base 1 "last_collects" 2 F_last_collects
  changed_at : Fn P w K mg base 1 "changed_at" 3 F_changed_at
  seen_often : Fn P w K mg base 1 "seen_often" 2 F_seen_often
  others : Fn P w K mg base 1 "others" 2 F_others
  number_behind : Fn P w K mg base 1 "number_behind" 2 F_number_behind
  values_of : Fn P w K mg base 1 "values_of" 1 F_values_of
  own_read : Fn P w K mg base 1 "own_read" 1 F_own_read
  next_once : Fn P w K mg base 2 "next_once" 4 F_next_once
  look_twice : Fn P w K mg base 2 "look_twice" 2 F_look_twice
  next_twice : Fn P w K mg base 3 "next_twice" 5 F_next_twice
  all_moved : Fn P w K mg base 2 "all_moved" 2 F_all_moved
  look_handed : Fn P w K mg base 3 "look_handed" 3 F_look_handed
  next_handed : Fn P w K mg base 4 "next_handed" 5 F_next_handed
  round_length_signs : Fn P w K mg base 1 "round_length_signs" 2 F_round_length_signs
  shake_step : Fn P w K mg base 2 "shake_step" 4 F_shake_step
  moved_in_signs : Fn P w K mg base 2 "moved_in_signs" 3 F_moved_in_signs
  look_signs : Fn P w K mg base 3 "look_signs" 3 F_look_signs
  calls_of : Fn P w K mg base 2 "calls_of" 3 F_calls_of
  next_signs : Fn P w K mg base 4 "next_signs" 5 F_next_signs
  next_step : Fn P w K mg base 5 "next_step" 5 F_next_step
  zeros : Fn P w K mg base 1 "zeros" 1 F_zeros
  between : Fn P w K mg base 1 "between" 2 F_between
  first_own : Fn P w K mg base 2 "first_own" 1 F_first_own
  first_boxes : Fn P w K mg base 3 "first_boxes" 1 F_first_boxes
  first_row : Fn P w K mg base 1 "first_row" 0 F_first_row
  begun : Fn P w K mg base 4 "begun" 2 F_begun
  state_of : Fn P w K mg base 2 "state_of" 2 F_state_of
  deed_there : Fn P w K mg base 5 "deed_there" 3 F_deed_there
  may_step : Fn P w K mg base 6 "may_step" 3 F_may_step
  boxes_behind : Fn P w K mg base 1 "boxes_behind" 2 F_boxes_behind
  reading : Fn P w K mg base 1 "reading" 2 F_reading
  with_state : Fn P w K mg base 1 "with_state" 2 F_with_state
  since_begin : Fn P w K mg base 3 "since_begin" 4 F_since_begin
  own_row : Fn P w K mg base 7 "own_row" 5 F_own_row
  stepped_end : Fn P w K mg base 8 "stepped_end" 4 F_stepped_end
  stepped : Fn P w K mg base 9 "stepped" 4 F_stepped
  Sums_deed : Mt P w K mg base 1 C "deed" (F_Sums_deed C)
  Sums_answer : Mt P w K mg base 1 C "answer" (F_Sums_answer C)
  at_job : Fn P w K mg base 3 "at_job" 3 (F_at_job C)
  answer_ofC : Fn P w K mg base 4 "answer_of" 3 (F_answer_ofC C)
  followed : Fn P w K mg base 9 "followed" 3 F_followed
  story : Fn P w K mg base 10 "story" 3 F_story
  law_total : Fn P w K mg base 1 "_law_total" 2 F_law_total
theorem bun {C : Addr} (T : Top K mg) (S : SumsC K mg C) : Bun P w K mg base C := by
  have c_Sums_init : Mkr P w K mg base 1 "Sums" C "own" "said" "told" := ok_Sums_init S
  have c_hands_of : Fn P w K mg base 1 "hands_of" 1 F_hands_of := ok_hands_of (P := P) (w := w) (base := base) T
  have c_places_of : Fn P w K mg base 1 "places_of" 1 F_places_of := ok_places_of (P := P) (w := w) (base := base) T
  have c_shakes_of : Fn P w K mg base 1 "shakes_of" 1 F_shakes_of := ok_shakes_of (P := P) (w := w) (base := base) T
  have c_last_collects : Fn P w K mg base 1 "last_collects" 2 F_last_collects := ok_last_collects (P := P) (w := w) (base := base) T
  have c_changed_at : Fn P w K mg base 1 "changed_at" 3 F_changed_at := ok_changed_at (P := P) (w := w) (base := base) T
  have c_seen_often : Fn P w K mg base 1 "seen_often" 2 F_seen_often := ok_seen_often (P := P) (w := w) (base := base) T
  have c_others : Fn P w K mg base 1 "others" 2 F_others := ok_others (P := P) (w := w) (base := base) T
  have c_number_behind : Fn P w K mg base 1 "number_behind" 2 F_number_behind := ok_number_behind (P := P) (w := w) (base := base) T
  have c_values_of : Fn P w K mg base 1 "values_of" 1 F_values_of := ok_values_of (P := P) (w := w) (base := base) T
  have c_own_read : Fn P w K mg base 1 "own_read" 1 F_own_read := ok_own_read (P := P) (w := w) (base := base) T
  have c_next_once : Fn P w K mg base 2 "next_once" 4 F_next_once := ok_next_once (P := P) (w := w) (base := base) T c_own_read
  have c_look_twice : Fn P w K mg base 2 "look_twice" 2 F_look_twice := ok_look_twice (P := P) (w := w) (base := base) T c_changed_at c_last_collects c_own_read c_values_of
  have c_next_twice : Fn P w K mg base 3 "next_twice" 5 F_next_twice := ok_next_twice (P := P) (w := w) (base := base) T c_look_twice c_number_behind
  have c_all_moved : Fn P w K mg base 2 "all_moved" 2 F_all_moved := ok_all_moved (P := P) (w := w) (base := base) T c_changed_at
  have c_look_handed : Fn P w K mg base 3 "look_handed" 3 F_look_handed := ok_look_handed (P := P) (w := w) (base := base) T c_all_moved c_changed_at c_last_collects c_own_read c_seen_often c_values_of
  have c_next_handed : Fn P w K mg base 4 "next_handed" 5 F_next_handed := ok_next_handed (P := P) (w := w) (base := base) T c_look_handed c_number_behind
  have c_round_length_signs : Fn P w K mg base 1 "round_length_signs" 2 F_round_length_signs := ok_round_length_signs (P := P) (w := w) (base := base) T
  have c_shake_step : Fn P w K mg base 2 "shake_step" 4 F_shake_step := ok_shake_step (P := P) (w := w) (base := base) T c_others c_own_read
  have c_moved_in_signs : Fn P w K mg base 2 "moved_in_signs" 3 F_moved_in_signs := ok_moved_in_signs (P := P) (w := w) (base := base) T c_others
  have c_look_signs : Fn P w K mg base 3 "look_signs" 3 F_look_signs := ok_look_signs (P := P) (w := w) (base := base) T c_moved_in_signs c_own_read c_round_length_signs c_seen_often c_shake_step c_values_of
  have c_calls_of : Fn P w K mg base 2 "calls_of" 3 F_calls_of := ok_calls_of (P := P) (w := w) (base := base) T c_others
  have c_next_signs : Fn P w K mg base 4 "next_signs" 5 F_next_signs := ok_next_signs (P := P) (w := w) (base := base) T c_calls_of c_look_signs c_others
  have c_next_step : Fn P w K mg base 5 "next_step" 5 F_next_step := ok_next_step (P := P) (w := w) (base := base) T c_next_handed c_next_once c_next_signs c_next_twice
  have c_zeros : Fn P w K mg base 1 "zeros" 1 F_zeros := ok_zeros (P := P) (w := w) (base := base) T
  have c_between : Fn P w K mg base 1 "between" 2 F_between := ok_between (P := P) (w := w) (base := base) T
  have c_first_own : Fn P w K mg base 2 "first_own" 1 F_first_own := ok_first_own (P := P) (w := w) (base := base) T c_zeros
  have c_first_boxes : Fn P w K mg base 3 "first_boxes" 1 F_first_boxes := ok_first_boxes (P := P) (w := w) (base := base) T c_between c_first_own c_hands_of c_shakes_of
  have c_first_row : Fn P w K mg base 1 "first_row" 0 F_first_row := ok_first_row (P := P) (w := w) (base := base) T
  have c_begun : Fn P w K mg base 4 "begun" 2 F_begun := ok_begun (P := P) (w := w) (base := base) T c_first_boxes c_first_row
  have c_state_of : Fn P w K mg base 2 "state_of" 2 F_state_of := ok_state_of (P := P) (w := w) (base := base) T c_places_of
  have c_boxes_behind : Fn P w K mg base 1 "boxes_behind" 2 F_boxes_behind := ok_boxes_behind (P := P) (w := w) (base := base) T
  have c_reading : Fn P w K mg base 1 "reading" 2 F_reading := ok_reading (P := P) (w := w) (base := base) T
  have c_with_state : Fn P w K mg base 1 "with_state" 2 F_with_state := ok_with_state (P := P) (w := w) (base := base) T
  have c_since_begin : Fn P w K mg base 3 "since_begin" 4 F_since_begin := ok_since_begin (P := P) (w := w) (base := base) T c_state_of
  have c_Sums_deed : Mt P w K mg base 1 C "deed" (F_Sums_deed C) := ok_Sums_deed (P := P) (w := w) (base := base) T S
  have c_Sums_answer : Mt P w K mg base 1 C "answer" (F_Sums_answer C) := ok_Sums_answer (P := P) (w := w) (base := base) T S
  have c_at_job : Fn P w K mg base 3 "at_job" 3 (F_at_job C) := ok_at_job (P := P) (w := w) (base := base) T S c_Sums_init
  have c_next_deed : Fn P w K mg base 4 "next_deed" 3 F_next_deed := (ok_next_deedC (P := P) (w := w) (base := base) T S c_Sums_deed c_at_job).imp fun _ _ => f_deedC
  have c_deeds_done : Fn P w K mg base 5 "deeds_done" 3 F_deeds_done := ok_deeds_done (P := P) (w := w) (base := base) T c_next_deed
  have c_ahead_of : Fn P w K mg base 6 "ahead_of" 4 F_ahead_of := ok_ahead_of (P := P) (w := w) (base := base) T c_deeds_done c_places_of
  have c_deed_there : Fn P w K mg base 5 "deed_there" 3 F_deed_there := ok_deed_there (P := P) (w := w) (base := base) T c_next_deed
  have c_may_step : Fn P w K mg base 6 "may_step" 3 F_may_step := ok_may_step (P := P) (w := w) (base := base) T c_deed_there
  have c_own_row : Fn P w K mg base 7 "own_row" 5 F_own_row := ok_own_row (P := P) (w := w) (base := base) T c_ahead_of c_next_step c_reading c_since_begin
  have c_stepped_end : Fn P w K mg base 8 "stepped_end" 4 F_stepped_end := ok_stepped_end (P := P) (w := w) (base := base) T c_boxes_behind c_deed_there c_own_row c_state_of c_with_state
  have c_stepped : Fn P w K mg base 9 "stepped" 4 F_stepped := ok_stepped (P := P) (w := w) (base := base) T c_stepped_end
  have c_answer_ofC : Fn P w K mg base 4 "answer_of" 3 (F_answer_ofC C) := ok_answer_ofC (P := P) (w := w) (base := base) T S c_Sums_answer c_Sums_deed c_at_job
  have c_followed : Fn P w K mg base 9 "followed" 3 F_followed := ok_followed (P := P) (w := w) (base := base) T c_begun c_deed_there c_stepped_end
  have c_story : Fn P w K mg base 10 "story" 3 F_story := ok_story (P := P) (w := w) (base := base) T c_followed
  have c_law_total : Fn P w K mg base 1 "_law_total" 2 F_law_total := ok_law_total (P := P) (w := w) (base := base) T
  exact ⟨c_hands_of, c_places_of, c_shakes_of, c_deeds_done, c_ahead_of, c_last_collects, c_changed_at, c_seen_often, c_others, c_number_behind, c_values_of, c_own_read, c_next_once, c_look_twice, c_next_twice, c_all_moved, c_look_handed, c_next_handed, c_round_length_signs, c_shake_step, c_moved_in_signs, c_look_signs, c_calls_of, c_next_signs, c_next_step, c_zeros, c_between, c_first_own, c_first_boxes, c_first_row, c_begun, c_state_of, c_deed_there, c_may_step, c_boxes_behind, c_reading, c_with_state, c_since_begin, c_own_row, c_stepped_end, c_stepped, c_Sums_deed, c_Sums_answer, c_at_job, c_answer_ofC, c_followed, c_story, c_law_total⟩
end
end K98

/-! ## ML1 -/
/-! The hand: a list of ints at an address of its own, written by those who draw. -/
namespace K98
open PySem PySem.Spec PyProof.Rows L2
def HandAt (H : Hp) (p : Addr) (hd : List Int) : Prop := H p = some (.lst (hd.map V.int))
/-- no list that a slot tells of is the hand's -/
def Far (p : Addr) (σ : L2.St) (env : List Vl) : Prop := ∀ (j : Nat) (x : Vl), env[j]? = some x → isLst x = true → σ[j]? ≠ some (some (.ref p))
structure St0 (K : PySem.W.Frag) (p : Addr) (H0 H : Hp) (σ : L2.St) (env : List Vl) (hd : List Int) : Prop where
  s0 : Same H0 H
  ok : EnvOk K H0 H σ env
  free : H0 p = none
  far : Far p σ env
  hand : HandAt H p hd
theorem St0.same {K : PySem.W.Frag} {p : Addr} {H0 H H' : Hp} {σ : L2.St} {env : List Vl} {hd : List Int} (h : St0 K p H0 H σ env hd) (s : Same H H') : St0 K p H0 H' σ env hd :=
  ⟨h.s0.trans s, h.ok.same s, h.free, h.far, s _ _ h.hand⟩
/-- the base with the hand in it -/
def baseH (H0 : Hp) (p : Addr) (hd : List Int) : Hp := upd H0 p (.lst (hd.map V.int))
theorem base_at {H0 : Hp} {p : Addr} {hd : List Int} : baseH H0 p hd p = some (.lst (hd.map V.int)) := upd_same
theorem base_ne {H0 : Hp} {p b : Addr} {hd : List Int} (h : b ≠ p) : baseH H0 p hd b = H0 b := upd_ne h
theorem St0.sHs {K : PySem.W.Frag} {p : Addr} {H0 H : Hp} {σ : L2.St} {env : List Vl} {hd : List Int} (h : St0 K p H0 H σ env hd) : Same H0 (baseH H0 p hd) := same_new h.free
theorem St0.sH {K : PySem.W.Frag} {p : Addr} {H0 H : Hp} {σ : L2.St} {env : List Vl} {hd : List Int} (h : St0 K p H0 H σ env hd) : Same (baseH H0 p hd) H := fun b o e => by
  by_cases hb : b = p
  · subst hb
    rw [base_at] at e
    cases e
    exact h.hand
  · rw [base_ne hb] at e
    exact h.s0 _ _ e
theorem St0.re {K : PySem.W.Frag} {p : Addr} {H0 H : Hp} {σ : L2.St} {env : List Vl} {hd : List Int} (h : St0 K p H0 H σ env hd) : EnvOk K (baseH H0 p hd) H σ env := by
  refine ⟨h.ok.len, fun i x e n => ?_, h.ok.sep, h.ok.nop⟩
  obtain ⟨v, q1, q2⟩ := h.ok.at_ i x e n
  refine ⟨v, q1, ?_⟩
  have ne : isLst x = true → ∀ a, v = .ref a → H0 a = none → baseH H0 p hd a = none := fun hl a ea ha => by
    rw [base_ne (fun z => ?_)]
    · exact ha
    · subst z ea
      exact h.far i x e hl q1
  cases x with
  | o xs => obtain ⟨a, vs, e1, e2, e3⟩ := q2; exact ⟨a, vs, e1, ne rfl a e1 e2, e3⟩
  | u xs => obtain ⟨a, vs, e1, e2, e3⟩ := q2; exact ⟨a, vs, e1, ne rfl a e1 e2, e3⟩
  | k xs => obtain ⟨a, vs, e1, e2, e3⟩ := q2; exact ⟨a, vs, e1, ne rfl a e1 e2, e3⟩
  | p xs ys => exact absurd (h.ok.nop i _ e) (by simp [noP])
  | d _ => exact q2
  | l _ => exact q2
  | m _ => exact q2
  | b _ => exact q2
  | i _ _ => exact q2
  | a _ => exact q2
  | un => exact q2
def noL : Vl → Bool
  | .l _ => false
  | _ => true
/-- back -/
theorem St0.of {K : PySem.W.Frag} {p : Addr} {H0 H' : Hp} {σ' : L2.St} {env' : List Vl} {hd : List Int} (f : H0 p = none) (s : Same (baseH H0 p hd) H') (he : EnvOk K (baseH H0 p hd) H' σ' env') (hn : env'.all noL = true) : St0 K p H0 H' σ' env' hd := by
  have sHs : Same H0 (baseH H0 p hd) := same_new f
  refine ⟨sHs.trans s, he.base fun a ob h1 _ => sHs.free h1, f, fun j x e hl z => ?_, s _ _ base_at⟩
  obtain ⟨v, q1, q2⟩ := he.at_ j x e (isLst_un hl)
  rw [q1] at z
  cases z
  have bad : ∀ a, V.ref p = V.ref a → baseH H0 p hd a = none → False := fun a ea ha => by
    cases ea
    rw [base_at] at ha
    cases ha
  cases x with
  | o xs => obtain ⟨a, vs, e1, e2, e3⟩ := q2; exact bad a e1 e2
  | u xs => obtain ⟨a, vs, e1, e2, e3⟩ := q2; exact bad a e1 e2
  | k xs => obtain ⟨a, vs, e1, e2, e3⟩ := q2; exact bad a e1 e2
  | l xs => exact absurd (List.all_eq_true.mp hn _ (List.mem_of_getElem? e)) (by simp [noL])
  | d _ => cases hl
  | m _ => cases hl
  | b _ => cases hl
  | i _ _ => cases hl
  | a _ => cases hl
  | p _ _ => cases hl
  | un => cases hl

section
variable {K : PySem.W.Frag} {X : Cx} {a b c e : Expr} {es : List Expr} {pos pos' : Pos} {x : PySem.Str} {pp : Pos} {s : Stmt} {ss : List Stmt} {i : Nat} {p : Addr}
abbrev RM := List Vl → List Int → Option (D × List Int)
abbrev RT := List Vl → List Int → Option (Bool × List Int)
variable {fa fb : RM} {ga : RT}
/-! ### expressions that draw -/
def tM (K : PySem.W.Frag) (p : Addr) (f : RM) : TE := fun σ H Q => ∃ H0 env hd r, St0 K p H0 H σ env hd ∧ f env hd = some r ∧ ∀ v H', St0 K p H0 H' σ env r.2 → TupLe H H' → Rep K H' v r.1 → Q v H'
def tMT (K : PySem.W.Frag) (p : Addr) (f : RT) : TT := fun σ H Q => ∃ H0 env hd r, St0 K p H0 H σ env hd ∧ f env hd = some r ∧ ∀ H', St0 K p H0 H' σ env r.2 → TupLe H H' → Q r.1 H'
def mD (f : List Vl → Option Vl) : RM := fun env hd => (f env).bind fun v => (datOf v).map fun d => (d, hd)
theorem m_D {f : List Vl → Option Vl} (h : PE X e (tD K f)) : PE X e (tM K p (mD f)) := pe_wk h fun σ H Q hq => by
  obtain ⟨H0, env, hd, r, st, hf, q⟩ := hq
  obtain ⟨v, h1, hf⟩ := Option.bind_eq_some_iff.mp hf
  obtain ⟨d, h2, hf⟩ := Option.map_eq_some_iff.mp hf
  subst hf
  exact ⟨H0, env, v, st.s0, st.ok, h1, fun u H' s' hu => q u H' (st.same s') (same_tup s') (hu.dat h2)⟩
def mTD (f : List Vl → Option Bool) : RT := fun env hd => (f env).map fun b => (b, hd)
theorem mt_D {f : List Vl → Option Bool} (h : PT X e (tT K f)) : PT X e (tMT K p (mTD f)) := pt_wk h fun σ H Q hq => by
  obtain ⟨H0, env, hd, r, st, hf, q⟩ := hq
  obtain ⟨b, h1, hf⟩ := Option.map_eq_some_iff.mp hf
  subst hf
  exact ⟨H0, env, b, st.s0, st.ok, h1, fun H' s' => q H' (st.same s') (same_tup s')⟩
def m2 (g : Vl → Vl → Option Vl) (fa fb : RM) : RM := fun env hd => (fa env hd).bind fun r1 => (fb env r1.2).bind fun r2 => (g (.d r1.1) (.d r2.1)).bind fun v => (datOf v).map fun d => (d, r2.2)
theorem m_op {op : Operator} {r : R2} {g : Vl → Vl → Option Vl} (ho : OpR X (binaryOp op) r) (hr : Ru2 K r g) (ha : PE X a (tM K p fa)) (hb : PE X b (tM K p fb)) : PE X (.BinOp a op b pos) (tM K p (m2 g fa fb)) := pe_wk (pe_op ho ha hb) fun σ H Q hq => by
  obtain ⟨H0, env, hd, r0, st, hf, q⟩ := hq
  obtain ⟨r1, h1, hf⟩ := Option.bind_eq_some_iff.mp hf
  obtain ⟨r2, h2, hf⟩ := Option.bind_eq_some_iff.mp hf
  obtain ⟨v, h3, hf⟩ := Option.bind_eq_some_iff.mp hf
  obtain ⟨d, h4, hf⟩ := Option.map_eq_some_iff.mp hf
  subst hf
  refine ⟨H0, env, hd, r1, st, h1, fun u1 H1 st1 t1 hu1 => ⟨H0, env, r1.2, r2, st1, h2, fun u2 H2 st2 t2 hu2 => ?_⟩⟩
  refine hr H0 H2 u1 u2 (.d r1.1) (.d r2.1) v Q st2.s0 (Rep.mono t2 _ _ hu1) hu2 h3 fun u3 H3 s3 hu3 => ?_
  exact q u3 H3 (st2.same s3) (t1.trans (t2.trans (same_tup s3))) (hu3.dat h4)
def mT2 (g : Vl → Vl → Option Bool) (fa fb : RM) : RT := fun env hd => (fa env hd).bind fun r1 => (fb env r1.2).bind fun r2 => (g (.d r1.1) (.d r2.1)).map fun b => (b, r2.2)
theorem mt_op {op : CmpOp} {r : R2} {g : Vl → Vl → Option Bool} (ho : OpR X (compareOp op) r) (hr : RuT K r g) (ha : PE X a (tM K p fa)) (hb : PE X b (tM K p fb)) (hm : behindInMarks op b = false) : PT X (.Compare a [op] [b] pos) (tMT K p (mT2 g fa fb)) := pt_wk (pt_cmpR ho ha hb hm) fun σ H Q hq => by
  obtain ⟨H0, env, hd, r0, st, hf, q⟩ := hq
  obtain ⟨r1, h1, hf⟩ := Option.bind_eq_some_iff.mp hf
  obtain ⟨r2, h2, hf⟩ := Option.bind_eq_some_iff.mp hf
  obtain ⟨v, h3, hf⟩ := Option.map_eq_some_iff.mp hf
  subst hf
  refine ⟨H0, env, hd, r1, st, h1, fun u1 H1 st1 t1 hu1 => ⟨H0, env, r1.2, r2, st1, h2, fun u2 H2 st2 t2 hu2 => ?_⟩⟩
  exact hr H0 H2 u1 u2 (.d r1.1) (.d r2.1) v _ st2.s0 (Rep.mono t2 _ _ hu1) hu2 h3 fun H3 s3 => ⟨v, rfl, q H3 (st2.same s3) (t1.trans (t2.trans (same_tup s3)))⟩
def gMul : Vl → Vl → Option Vl := gI fun i j => if (-(2 ^ 64) < i ∧ i < 2 ^ 64) ∨ (-(2 ^ 64) < j ∧ j < 2 ^ 64) then some (i * j) else none
def gMod : Vl → Vl → Option Vl := gI fun i j => if 0 < j then some (i % j) else none
def gDiv : Vl → Vl → Option Vl := gI fun i j => if 0 < j ∧ j < 1073741824 then some (i / j) else none
def gAdd : Vl → Vl → Option Vl := gI fun i j => some (i + j)
theorem m_add (ha : PE X a (tM K p fa)) (hb : PE X b (tM K p fb)) : PE X (.BinOp a .Add b pos) (tM K p (m2 gAdd fa fb)) := m_op op_add (ru_I fun i j k H Q e q => ⟨i, j, rfl, rfl, by cases e; exact q⟩) ha hb
theorem m_mul (ha : PE X a (tM K p fa)) (hb : PE X b (tM K p fb)) : PE X (.BinOp a .Mult b pos) (tM K p (m2 gMul fa fb)) := m_op op_mul (ru_I fun i j k H Q e q => by
    split at e
    · rename_i hc
      cases e
      exact ⟨i, j, rfl, rfl, hc, q⟩
    · cases e) ha hb
theorem m_mod (ha : PE X a (tM K p fa)) (hb : PE X b (tM K p fb)) : PE X (.BinOp a .Mod b pos) (tM K p (m2 gMod fa fb)) := m_op op_mod (ru_I fun i j k H Q e q => by
    split at e
    · rename_i hc
      cases e
      exact ⟨i, j, rfl, rfl, hc, q⟩
    · cases e) ha hb
theorem m_div (ha : PE X a (tM K p fa)) (hb : PE X b (tM K p fb)) : PE X (.BinOp a .FloorDiv b pos) (tM K p (m2 gDiv fa fb)) := m_op op_fdiv (ru_I fun i j k H Q e q => by
    split at e
    · rename_i hc
      cases e
      exact ⟨i, j, rfl, rfl, hc, q⟩
    · cases e) ha hb
theorem mt_gt (ha : PE X a (tM K p fa)) (hb : PE X b (tM K p fb)) : PT X (.Compare a [.Gt] [b] pos) (tMT K p (mT2 (gC fun i j => decide (j < i)) fa fb)) := mt_op op_gt ru_C ha hb (nomark _)
theorem mt_eq (hK : X.K = K) (hu : X.A.units + 100 < cLine) (ha : PE X a (tM K p fa)) (hb : PE X b (tM K p fb)) : PT X (.Compare a [.Eq] [b] pos) (tMT K p (mT2 gEq fa fb)) := by
  subst hK
  refine mt_op (op_eqD (by omega)) (fun H0 H x y a b k Q s0 hx hy hg q => ?_) ha hb (nomark _)
  obtain ⟨d, h1, hg⟩ := Option.bind_eq_some_iff.mp hg
  obtain ⟨e, h2, hg⟩ := Option.bind_eq_some_iff.mp hg
  split at hg
  · rename_i hc
    cases hg
    exact ⟨d, e, hx.deep h1, hy.deep h2, hc.1, hc.2, q H (Same.refl H)⟩
  · cases hg
/-- is the hand in slot i -/
def atHand (p : Addr) (i : Nat) (env : List Vl) : Bool := match env[i]? with
  | some (.a q) => decide (q = p)
  | _ => false
theorem atHand_ok {H0 H : Hp} {σ : L2.St} {env : List Vl} (h : EnvOk K H0 H σ env) (e : atHand p i env = true) : σ[i]? = some (some (.ref p)) := by
  unfold atHand at e
  split at e
  · rename_i q h1
    have e := of_decide_eq_true e
    subst e
    obtain ⟨v, q1, q2⟩ := h.at_ i _ h1 (by intro z; cases z)
    cases (show v = .ref q from q2)
    exact q1
  · cases e
/-- hand[k] -/
def mHd (p : Addr) (i : Nat) (k : Nat) : RM := fun env hd => if atHand p i env = true then (hd[k]?).map fun z => (.int z, hd) else none
theorem atI_hand {hd : List Int} {k : Nat} {z : Int} (h : hd[k]? = some z) : atI (hd.map V.int) (k : Int) = some (V.int z) := by
  have hk := (List.getElem?_eq_some_iff.mp h).1
  unfold atI ixN
  rw [if_pos (by omega), if_pos (by rw [List.length_map]; omega)]
  simp [h]
theorem m_hd {k j : Nat} {kp : Pos} (hK : X.K = K) (hN : X.N[i]? = some x := by rfl) (hv : Vis X.env.scope x := by first | exact Or.inl rfl | exact Or.inr (Or.inl rfl) | exact Or.inr (Or.inr rfl))
    (hd : (x == ("__debug__" : PySem.Str)) = false := by decide) (hcd : (x == ("__classdict__" : PySem.Str)) = false := by decide) : PE X (.Subscript (.Name x pp) (.Constant (.int (k : Nat)) j kp) pos) (tM K p (mHd p i k)) := by
  subst hK
  refine pe_wk (pe_ix ix_seq (pe_var hN hv hd hcd) pe_int (fun _ _ => rfl)) fun σ H Q hq => ?_
  obtain ⟨H0, env, hd, r, st, hf, q⟩ := hq
  unfold mHd at hf
  split at hf
  · rename_i hh
    obtain ⟨z, h1, hf⟩ := Option.map_eq_some_iff.mp hf
    subst hf
    refine ⟨_, atHand_ok st.ok hh, .inl ⟨p, _, k, _, rfl, rfl, .of st.hand, atI_hand h1, ?_⟩⟩
    exact q _ H st TupLe.refl (.int z)
  · cases hf
/-- rows of arguments that are data -/
abbrev RMs := List Vl → List Int → Option (List D × List Int)
variable {fs : RMs}
def tMA (K : PySem.W.Frag) (p : Addr) (f : RMs) : TA := fun σ H Q => ∃ H0 env hd r, St0 K p H0 H σ env hd ∧ f env hd = some r ∧ ∀ vs H', St0 K p H0 H' σ env r.2 → TupLe H H' → RepL K H' vs r.1 → Q vs H'
def mNil : RMs := fun _ hd => some ([], hd)
def mCons (f : RM) (g : RMs) : RMs := fun env hd => (f env hd).bind fun r => (g env r.2).map fun q => (r.1 :: q.1, q.2)
theorem ma_nil : PA X [] (tMA K p mNil) := pa_wk pa_nil fun σ H Q h => by
  obtain ⟨H0, env, hd, r, st, hf, q⟩ := h
  cases hf
  exact q [] H st TupLe.refl .nil
theorem ma_cons (ha : PE X a (tM K p fa)) (hr : PA X es (tMA K p fs)) (hs : starEach (a :: es) X.env = (false, eval a X.env) :: starEach es X.env := by rfl) : PA X (a :: es) (tMA K p (mCons fa fs)) :=
  pa_wk (pa_cons ha hr hs) fun σ H Q h => by
    obtain ⟨H0, env, hd, r, st, hf, q⟩ := h
    obtain ⟨r1, h1, hf⟩ := Option.bind_eq_some_iff.mp hf
    obtain ⟨r2, h2, hf⟩ := Option.map_eq_some_iff.mp hf
    subst hf
    refine ⟨H0, env, hd, r1, st, h1, fun v H1 st1 t1 hv => ⟨H0, env, r1.2, r2, st1, h2, fun vs H2 st2 t2 hvs => ?_⟩⟩
    exact q (v :: vs) H2 st2 (t1.trans t2) (.cons (Rep.mono t2 _ _ hv) hvs)
/-- rows of arguments of any kind -/
abbrev RMx := List Vl → List Int → Option (List Vl × List Int)
def FarL (p : Addr) (vs : List V) (xs : List Vl) : Prop := ∀ (j : Nat) (x : Vl), xs[j]? = some x → isLst x = true → vs[j]? ≠ some (.ref p)
variable {fx : RMx}
def tMX (K : PySem.W.Frag) (p : Addr) (f : RMx) : TA := fun σ H Q => ∃ H0 env hd r, St0 K p H0 H σ env hd ∧ f env hd = some r ∧ ∀ vs H', St0 K p H0 H' σ env r.2 → TupLe H H' → RepXs K Any H0 H' vs r.1 → FarL p vs r.1 → Q vs H'
def xD (f : List Vl → Option (List Vl)) : RMx := fun env hd => (f env).bind fun xs => if xs.all noL = true then some (xs, hd) else none
theorem farL_of {H0 H H' : Hp} {hd : List Int} {vs : List V} {xs : List Vl} (hH : H p = some (.lst (hd.map V.int))) (h : RepXs K (New H) (baseH H0 p hd) H' vs xs) : xs.all noL = true → FarL p vs xs := by
  induction h with
  | nil => intro _ j x e; simp at e
  | @cons v vs x xs h1 _ ih =>
    intro hn j y e hl z
    rw [List.all_cons, Bool.and_eq_true] at hn
    cases j with
    | succ j => exact ih hn.2 j y (by simpa using e) hl (by simpa using z)
    | zero =>
      simp only [List.getElem?_cons_zero, Option.some.injEq] at e z
      subst e z
      cases x with
      | o xs =>
        obtain ⟨a, vs, e1, e2, e3⟩ := h1
        cases e1
        exact absurd (hH.symm.trans e2) (by simp)
      | u xs =>
        obtain ⟨a, vs, e1, e2, e3⟩ := h1
        cases e1
        exact absurd (base_at.symm.trans e2) (by simp)
      | k xs =>
        obtain ⟨a, vs, e1, e2, e3⟩ := h1
        cases e1
        exact absurd (hH.symm.trans e2) (by simp)
      | l xs => exact absurd hn.1 (by simp [noL])
      | d _ => cases hl
      | m _ => cases hl
      | b _ => cases hl
      | i _ _ => cases hl
      | a _ => cases hl
      | p _ _ => cases hl
      | un => cases hl
theorem RepX.baseU {H0 Hs H : Hp} {N : Addr → Prop} {v : V} {y : Vl} (h : RepX K N Hs H v y) (s : Same H0 Hs) : RepX K Any H0 H v y := by
  cases y with
  | o xs => obtain ⟨a, vs, e1, e2, e3⟩ := h; exact ⟨a, vs, e1, trivial, e3⟩
  | u xs => obtain ⟨a, vs, e1, e2, e3⟩ := h; exact ⟨a, vs, e1, s.free e2, e3⟩
  | k xs => obtain ⟨a, vs, e1, e2, e3⟩ := h; exact ⟨a, vs, e1, trivial, e3⟩
  | p xs ys =>
    obtain ⟨u, a, b, vs, ws, q, q0, n1, q1, r1, n2, q2, r2⟩ := h
    exact ⟨u, a, b, vs, ws, q, q0, s.free n1, q1, r1, s.free n2, q2, r2⟩
  | d _ => exact h
  | l _ => exact h
  | m _ => exact h
  | b _ => exact h
  | i _ _ => exact h
  | a _ => exact h
  | un => exact h
theorem RepXs.baseU {H0 Hs H : Hp} {N : Addr → Prop} {vs : List V} {ys : List Vl} (h : RepXs K N Hs H vs ys) (s : Same H0 Hs) : RepXs K Any H0 H vs ys := by
  induction h with
  | nil => exact .nil
  | cons h _ ih => exact .cons (h.baseU s) ih
theorem mx_D {f : List Vl → Option (List Vl)} (h : PA X es (tA' K f)) : PA X es (tMX K p (xD f)) := pa_wk h fun σ H Q hq => by
  obtain ⟨H0, env, hd, r, st, hf, q⟩ := hq
  obtain ⟨xs, h1, hf⟩ := Option.bind_eq_some_iff.mp hf
  split at hf
  · rename_i hn
    cases hf
    refine ⟨baseH H0 p hd, env, xs, st.sH, st.re, h1, fun vs H' s' hv => ?_⟩
    exact q vs H' (st.same s') (same_tup s') (hv.baseU st.sHs) (farL_of st.hand hv hn)
  · cases hf
/-- one list written in place, its items drawn -/
def xL (f : RMs) : RMx := fun env hd => (f env hd).bind fun r => if r.1.length ≤ 1000 then some ([.o r.1], r.2) else none
theorem mx_L (h : PA X es (tMA K p fs)) (hs : starEach [.List es pos] X.env = (false, eval (.List es pos) X.env) :: starEach [] X.env := by rfl) : PA X [.List es pos] (tMX K p (xL fs)) := pa_wk (pa_cons (pe_lst h) pa_nil hs) fun σ H Q hq => by
  obtain ⟨H0, env, hd, r, st, hf, q⟩ := hq
  obtain ⟨r1, h1, hf⟩ := Option.bind_eq_some_iff.mp hf
  split at hf
  · rename_i hl
    cases hf
    refine ⟨H0, env, hd, r1, st, h1, fun vs H1 st1 t1 hvs => ⟨line1000 (by rw [hvs.length]; exact hl), fun l hfl => ?_⟩⟩
    have sn : Same H1 (upd H1 l (.lst vs)) := same_new hfl
    refine q [.ref l] _ (st1.same sn) (t1.trans (same_tup sn)) (.cons ⟨l, vs, rfl, trivial, upd_same, hvs.mono (same_tup sn)⟩ .nil) fun j x e hx z => ?_
    cases j with
    | succ j => simp at e
    | zero =>
      simp only [List.getElem?_cons_zero, Option.some.injEq, V.ref.injEq] at z
      subst z
      have := st1.hand
      unfold HandAt at this
      rw [hfl] at this
      cases this
  · cases hf
/-- one drawn number -/
def xM (f : RM) : RMx := fun env hd => (f env hd).map fun r => ([.d r.1], r.2)
theorem mx_M (h : PE X a (tM K p fa)) (hs : starEach [a] X.env = (false, eval a X.env) :: starEach [] X.env := by rfl) : PA X [a] (tMX K p (xM fa)) := pa_wk (pa_cons h pa_nil hs) fun σ H Q hq => by
  obtain ⟨H0, env, hd, r, st, hf, q⟩ := hq
  obtain ⟨r1, h1, hf⟩ := Option.map_eq_some_iff.mp hf
  subst hf
  refine ⟨H0, env, hd, r1, st, h1, fun v H1 st1 t1 hv => q [v] H1 st1 t1 (.cons hv .nil) fun j x e hx => ?_⟩
  cases j with
  | succ j => simp at e
  | zero =>
    simp only [List.getElem?_cons_zero, Option.some.injEq] at e
    subst e
    cases hx
/-! ### calls of those who draw -/
/-- the heap without p -/
def hole (H : Hp) (p : Addr) : Hp := fun b => if b = p then none else H b
theorem hole_at {H : Hp} {p : Addr} : hole H p p = none := if_pos rfl
theorem hole_ne {H : Hp} {p b : Addr} (h : b ≠ p) : hole H p b = H b := if_neg h
theorem hole_same {H : Hp} {p : Addr} : Same (hole H p) H := fun b o e => by
  by_cases hb : b = p
  · subst hb; rw [hole_at] at e; cases e
  · rw [hole_ne hb] at e; exact e
abbrev RF := Addr → List Int → List Vl → Option (D × List Int)
/-- the promise of a def that draws: the hand first -/
def spB (K : PySem.W.Frag) (n : Nat) (F : RF) : Sp := fun vs H Q _ => vs.length = n + 1 ∧ ∃ p hd ws as r, vs = .ref p :: ws ∧ HandAt H p hd ∧ RepXs K Any H H ws as ∧ as.all argOk = true ∧ FarL p ws as ∧ F p hd as = some r ∧
  ∀ v H', Same (hole H p) H' → HandAt H' p r.2 → Rep K H' v r.1 → Q v H'
structure FnB (P : Program) (w : World) (K : PySem.W.Frag) (mg : PySem.Str → Option Value) (base : Heap) (k : Nat) (x : PySem.Str) (n : Nat) (F : RF) : Prop where
  ex : ∃ (ft : Addr) (fd : FuncData) (ps : List PySem.Str), FnOk P w K mg base CX0 k ft fd ps (spB K n F) ∧ mg x = some (.ref ft) ∧ PySem.W.keepIn K (.ref ft) = true ∧ Binds K fd ps []
def mCall (p : Addr) (i n : Nat) (F : RF) (fx : RMx) : RM := fun env hd => if atHand p i env = true then (fx env hd).bind fun r => if r.1.length = n ∧ (r.1.map toArg).all argOk = true then F p r.2 (r.1.map toArg) else none else none
theorem farL_arg {vs : List V} {xs : List Vl} (h : FarL p vs xs) : FarL p vs (xs.map toArg) := fun j x e hl => by
  rw [List.getElem?_map] at e
  obtain ⟨y, h1, e⟩ := Option.map_eq_some_iff.mp e
  subst e
  refine h j y h1 ?_
  cases y <;> first | rfl | exact hl
theorem m_call {y : PySem.Str} {n k j : Nat} {F : RF} {px : Pos} (cl : FnB X.prog X.w X.K X.mg X.base k y n F) (hK : X.K = K) (hr : Room j X.A) (hk : k ≤ j) (hg : Gl X y) (hx : PA X es (tMX K p fx))
    (hN : X.N[i]? = some x := by rfl) (hv : Vis X.env.scope x := by first | exact Or.inl rfl | exact Or.inr (Or.inl rfl) | exact Or.inr (Or.inr rfl))
    (hd : (x == ("__debug__" : PySem.Str)) = false := by decide) (hcd : (x == ("__classdict__" : PySem.Str)) = false := by decide)
    (hdb : (y == ("__debug__" : PySem.Str)) = false := by decide) (he : starEach (.Name x pp :: es) X.env = (false, eval (.Name x pp) X.env) :: starEach es X.env := by rfl) (hpl : (backTo pos (starEach es X.env)).any (·.1) = false := by rfl) :
    PE X (.Call (.Name y px) (.Name x pp :: es) [] pos) (tM K p (mCall p i n F fx)) := by
  subst hK
  obtain ⟨ft, fd, ps, h1, h2, h3, h4⟩ := cl.ex
  refine pe_wk (pe_call h1 (hr.mono hk) hg h2 h3 h4 .nil pass0 (pa_cons (pe_var hN hv hd hcd) hx he) hdb he hpl) fun σ H Q hq => ?_
  obtain ⟨H0, env, hd, r, st, hf, q⟩ := hq
  unfold mCall at hf
  split at hf
  · rename_i hh
    obtain ⟨r1, h5, hf⟩ := Option.bind_eq_some_iff.mp hf
    split at hf
    · rename_i hl
      refine ⟨_, atHand_ok st.ok hh, H0, env, hd, r1, st, h5, fun vs H1 st1 t1 hvs far => ?_⟩
      refine ⟨by rw [List.append_nil, List.length_cons, RepXs.length hvs, hl.1], p, r1.2, vs, r1.1.map toArg, r, by rw [List.append_nil], st1.hand, RepXs.args hvs hl.2, hl.2, farL_arg far, hf, fun v H' s' hh' hv' => ?_⟩
      have sH0 : Same H0 (hole H1 p) := fun b o e => by
        have hb : b ≠ p := fun z => by rw [z, st.free] at e; cases e
        rw [hole_ne hb]
        exact st1.s0 _ _ e
      have tu : TupLe H1 H' := ⟨fun a us e => s' _ _ (by
        rw [hole_ne (fun z => ?_)]
        · exact e
        · subst z
          have := st1.hand
          unfold HandAt at this
          rw [this] at e
          cases e), fun a o u e => s' _ _ (by
        rw [hole_ne (fun z => ?_)]
        · exact e
        · subst z
          have := st1.hand
          unfold HandAt at this
          rw [this] at e
          cases e)⟩
      refine q v H' ⟨sH0.trans s', ⟨st1.ok.len, fun j y e n => ?_, st1.ok.sep, st1.ok.nop⟩, st.free, st.far, hh'⟩ (t1.trans tu) hv'
      obtain ⟨u, q1, q2⟩ := st1.ok.at_ j y e n
      refine ⟨u, q1, ?_⟩
      have keep : ∀ {a : Addr} {ob : HO}, H1 a = some ob → a ≠ p → H' a = some ob := fun e1 e2 => s' _ _ (by rw [hole_ne e2]; exact e1)
      have ne : isLst y = true → ∀ a, u = .ref a → a ≠ p := fun hl a ea z => by
        subst ea z
        exact st1.far j y e hl q1
      have hand1 := st1.hand
      unfold HandAt at hand1
      cases y with
      | o xs => obtain ⟨a, vs, e1, e2, e3, e4⟩ := q2; exact ⟨a, vs, e1, e2, keep e3 (ne rfl a e1), e4.mono tu⟩
      | u xs => obtain ⟨a, vs, e1, e2, e3, e4⟩ := q2; exact ⟨a, vs, e1, e2, keep e3 (ne rfl a e1), e4.mono tu⟩
      | k xs => obtain ⟨a, vs, e1, e2, e3, e4⟩ := q2; exact ⟨a, vs, e1, e2, keep e3 (ne rfl a e1), e4.mono tu⟩
      | l xs => obtain ⟨a, vs, e1, e3, e4⟩ := q2; exact ⟨a, vs, e1, keep e3 (ne rfl a e1), e4.mono tu⟩
      | m xs => obtain ⟨a, vs, e1, e3, e4⟩ := q2; exact ⟨a, vs, e1, keep e3 (fun z => by rw [z, hand1] at e3; cases e3), e4.mono tu⟩
      | i C gs => obtain ⟨a, dx, vs, e1, e3, e4⟩ := q2; exact ⟨a, dx, vs, e1, keep e3 (fun z => by rw [z, hand1] at e3; cases e3), e4.mono tu⟩
      | d z => exact Rep.mono tu z u q2
      | b _ => exact q2
      | a _ => exact q2
      | p xs ys => exact absurd (st1.ok.nop j _ e) (by simp [noP])
      | un => exact absurd rfl n
    · cases hf
  · cases hf
/-- some[drawn number], some a list in a slot -/
def mIx (i : Nat) (f : RM) : RM := fun env hd => (f env hd).bind fun r => (intOf (.d r.1)).bind fun k => match env[i]? with
  | some (.l xs) => (atI xs k).map fun d => (d, r.2)
  | some (.o xs) => (atI xs k).map fun d => (d, r.2)
  | _ => none
theorem m_ix (hK : X.K = K) (hb : PE X b (tM K p fb)) (hs : PlainIx b := by exact fun _ _ => rfl) (hN : X.N[i]? = some x := by rfl) (hv : Vis X.env.scope x := by first | exact Or.inl rfl | exact Or.inr (Or.inl rfl) | exact Or.inr (Or.inr rfl))
    (hd : (x == ("__debug__" : PySem.Str)) = false := by decide) (hcd : (x == ("__classdict__" : PySem.Str)) = false := by decide) : PE X (.Subscript (.Name x pp) b pos) (tM K p (mIx i fb)) := by
  subst hK
  refine pe_wk (pe_ix ix_seq (pe_var hN hv hd hcd) hb hs) fun σ H Q hq => ?_
  obtain ⟨H0, env, hd, r, st, hf, q⟩ := hq
  obtain ⟨r1, h1, hf⟩ := Option.bind_eq_some_iff.mp hf
  obtain ⟨k, h2, hf⟩ := Option.bind_eq_some_iff.mp hf
  split at hf
  · rename_i xs hx
    obtain ⟨d, h3, hf⟩ := Option.map_eq_some_iff.mp hf
    subst hf
    obtain ⟨v, q1, _⟩ := st.ok.at_ i _ hx (by intro z; cases z)
    refine ⟨v, q1, H0, env, hd, r1, st, h1, fun u H1 st1 t1 hu => ?_⟩
    obtain ⟨v', q1', a, vs, rfl, e3, e4⟩ := st1.ok.at_ i _ hx (by intro z; cases z)
    rw [q1] at q1'
    cases q1'
    obtain ⟨w, hw, rw'⟩ := atI_rep e4 h3
    exact .inl ⟨a, vs, k, w, rfl, (show RepX X.K Any H0 H1 u (.d r1.1) from hu).int h2, .of e3, hw, q w H1 st1 t1 rw'⟩
  · rename_i xs hx
    obtain ⟨d, h3, hf⟩ := Option.map_eq_some_iff.mp hf
    subst hf
    obtain ⟨v, q1, _⟩ := st.ok.at_ i _ hx (by intro z; cases z)
    refine ⟨v, q1, H0, env, hd, r1, st, h1, fun u H1 st1 t1 hu => ?_⟩
    obtain ⟨v', q1', a, vs, rfl, _, e3, e4⟩ := st1.ok.at_ i _ hx (by intro z; cases z)
    rw [q1] at q1'
    cases q1'
    obtain ⟨w, hw, rw'⟩ := atI_rep e4 h3
    exact .inl ⟨a, vs, k, w, rfl, (show RepX X.K Any H0 H1 u (.d r1.1) from hu).int h2, .of e3, hw, q w H1 st1 t1 rw'⟩
  · cases hf
end
end K98

/-! ## ML2 -/
/-! Statements that draw. -/
namespace K98
open PySem PySem.Spec PyProof.Rows L2
section
variable {K : PySem.W.Frag}
/-- a list that no slot tells of is written -/
theorem EnvOk.updFar {H0 H : Hp} {σ : L2.St} {env : List Vl} (h : EnvOk K H0 H σ env) {a : Addr} {vs ws : List V} (hH : H a = some (.lst vs)) (far : Far a σ env) : EnvOk K H0 (upd H a (.lst ws)) σ env := by
  have t : TupLe H (upd H a (.lst ws)) := tup_upd hH
  refine ⟨h.len, fun j z e n => ?_, h.sep, h.nop⟩
  obtain ⟨v, e1, q⟩ := h.at_ j z e n
  refine ⟨v, e1, ?_⟩
  have ne : isLst z = true → ∀ b, v = .ref b → b ≠ a := fun ly b eb z' => by
    subst eb z'
    exact far j z e ly e1
  cases z with
  | d x => exact Rep.mono t x v q
  | o zs => obtain ⟨b, us, q1, q2, q3, q4⟩ := q; exact ⟨b, us, q1, q2, by rw [upd_ne (ne rfl b q1)]; exact q3, q4.mono t⟩
  | u zs => obtain ⟨b, us, q1, q2, q3, q4⟩ := q; exact ⟨b, us, q1, q2, by rw [upd_ne (ne rfl b q1)]; exact q3, q4.mono t⟩
  | k zs => obtain ⟨b, us, q1, q2, q3, q4⟩ := q; exact ⟨b, us, q1, q2, by rw [upd_ne (ne rfl b q1)]; exact q3, q4.mono t⟩
  | l zs => obtain ⟨b, us, q1, q3, q4⟩ := q; exact ⟨b, us, q1, by rw [upd_ne (ne rfl b q1)]; exact q3, q4.mono t⟩
  | m kvs => obtain ⟨b, us, q1, q3, q4⟩ := q; exact ⟨b, us, q1, by rw [upd_ne (fun z => by rw [z, hH] at q3; cases q3)]; exact q3, q4.mono t⟩
  | i C fs => obtain ⟨b, dx, us, q1, q3, q4⟩ := q; exact ⟨b, dx, us, q1, by rw [upd_ne (fun z => by rw [z, hH] at q3; cases q3)]; exact q3, q4.mono t⟩
  | b _ => exact q
  | a _ => exact q
  | p _ _ => exact absurd (h.nop j _ e) (by simp [noP])
  | un => exact q
/-- the base with a list more in it that no slot tells of -/
theorem EnvOk.more {H0 H : Hp} {σ : L2.St} {env : List Vl} (h : EnvOk K H0 H σ env) {a : Addr} {o : HO} (far : Far a σ env) : EnvOk K (upd H0 a o) H σ env := by
  refine ⟨h.len, fun i x e n => ?_, h.sep, h.nop⟩
  obtain ⟨v, q1, q2⟩ := h.at_ i x e n
  refine ⟨v, q1, ?_⟩
  have ne : isLst x = true → ∀ b, v = .ref b → H0 b = none → upd H0 a o b = none := fun hl b eb hb => by
    rw [upd_ne (fun z => ?_)]
    · exact hb
    · subst z eb
      exact far i x e hl q1
  cases x with
  | o xs => obtain ⟨b, vs, e1, e2, e3⟩ := q2; exact ⟨b, vs, e1, ne rfl b e1 e2, e3⟩
  | u xs => obtain ⟨b, vs, e1, e2, e3⟩ := q2; exact ⟨b, vs, e1, ne rfl b e1 e2, e3⟩
  | k xs => obtain ⟨b, vs, e1, e2, e3⟩ := q2; exact ⟨b, vs, e1, ne rfl b e1 e2, e3⟩
  | p xs ys => exact absurd (h.nop i _ e) (by simp [noP])
  | d _ => exact q2
  | l _ => exact q2
  | m _ => exact q2
  | b _ => exact q2
  | i _ _ => exact q2
  | a _ => exact q2
  | un => exact q2
theorem Far.setD {p : Addr} {σ : L2.St} {env : List Vl} (h : Far p σ env) {i : Nat} {v : Option V} {x : Vl} (hx : isLst x = false) : Far p (σ.set i v) (env.set i x) := fun j y e hl z => by
  by_cases hj : i = j
  · subst hj
    have hi : i < env.length := by
      have := (List.getElem?_eq_some_iff.mp e).1
      rwa [List.length_set] at this
    rw [List.getElem?_set_self hi] at e
    cases e
    rw [hx] at hl
    cases hl
  · rw [List.getElem?_set_ne hj] at e z
    exact h j y e hl z
theorem St0.setD {p : Addr} {H0 H : Hp} {σ : L2.St} {env : List Vl} {hd : List Int} (h : St0 K p H0 H σ env hd) {i : Nat} {v : V} {d : D} (hv : Rep K H v d) : St0 K p H0 H (σ.set i (some v)) (env.set i (.d d)) hd :=
  ⟨h.s0, h.ok.setD hv, h.free, h.far.setD rfl, h.hand⟩
theorem Far.wipe {p : Addr} {σ : L2.St} {env : List Vl} (h : Far p σ env) : ∀ vs : List Nat, Far p (L2.wipe σ vs) (wipeE env vs)
  | [] => h
  | v :: vs => (Far.wipe h vs).setD rfl
theorem St0.wipe {p : Addr} {H0 H : Hp} {σ : L2.St} {env : List Vl} {hd : List Int} (h : St0 K p H0 H σ env hd) (vs : List Nat) : St0 K p H0 H (L2.wipe σ vs) (wipeE env vs) hd :=
  ⟨h.s0, h.ok.wipe vs, h.free, h.far.wipe vs, h.hand⟩
theorem wipeE_length (env : List Vl) : ∀ vs : List Nat, (wipeE env vs).length = env.length
  | [] => rfl
  | v :: vs => by
    show ((wipeE env vs).set v .un).length = _
    rw [List.length_set, wipeE_length env vs]
theorem wipeE_in {env : List Vl} {i : Nat} : ∀ {vs : List Nat}, i ∈ vs → i < env.length → (wipeE env vs)[i]? = some .un
  | [], h, _ => by cases h
  | v :: vs, h, hi => by
    show ((wipeE env vs).set v .un)[i]? = _
    by_cases hv : v = i
    · subst hv
      exact List.getElem?_set_self (by rw [wipeE_length]; exact hi)
    · rw [List.getElem?_set_ne hv]
      refine wipeE_in ?_ hi
      rcases List.mem_cons.mp h with e | h
      · exact absurd e.symm hv
      · exact h
theorem wipeE_out {env : List Vl} {i : Nat} : ∀ {vs : List Nat}, i ∉ vs → (wipeE env vs)[i]? = env[i]?
  | [], _ => rfl
  | v :: vs, h => by
    show ((wipeE env vs).set v .un)[i]? = _
    rw [List.mem_cons, not_or] at h
    rw [List.getElem?_set_ne (fun z => h.1 z.symm), wipeE_out h.2]
/-- slots of which nothing is told may hold anything -/
theorem St0.swap {p : Addr} {H0 H : Hp} {σ τ : L2.St} {env fin : List Vl} {hd : List Int} {vs : List Nat} (h : St0 K p H0 H τ env hd) (hl : σ.length = τ.length) (hs : ∀ i, i ∉ vs → σ[i]? = τ[i]?) (hf : fin.length = env.length) (hu : ∀ i, i ∈ vs → i < fin.length → fin[i]? = some .un) (ho : ∀ i, i ∉ vs → fin[i]? = env[i]?) : St0 K p H0 H σ fin hd := by
  have out : ∀ {i : Nat} {x : Vl}, fin[i]? = some x → x ≠ .un → i ∉ vs := fun {i x} e n hi => by
    rw [hu i hi (List.getElem?_eq_some_iff.mp e).1] at e
    cases e
    exact n rfl
  refine ⟨h.s0, ⟨by rw [hl, hf]; exact h.ok.len, fun i x e n => ?_, fun i j x y hij ex ey ox ly => ?_, fun i x e => ?_⟩, h.free, fun j x e hx => ?_, h.hand⟩
  · have hi := out e n
    rw [ho i hi] at e
    rw [hs i hi]
    exact h.ok.at_ i x e n
  · have hi := out ex (isLst_un (isOwn_lst ox))
    have hj := out ey (isLst_un ly)
    rw [ho i hi] at ex
    rw [ho j hj] at ey
    rw [hs i hi, hs j hj]
    exact h.ok.sep i j x y hij ex ey ox ly
  · by_cases hi : i ∈ vs
    · rw [hu i hi (List.getElem?_eq_some_iff.mp e).1] at e
      cases e
      rfl
    · rw [ho i hi] at e
      exact h.ok.nop i x e
  · have hj := out e (isLst_un hx)
    rw [ho j hj] at e
    rw [hs j hj]
    exact h.far j x e hx
end
inductive OutM where
  | nx (env : List Vl) (hd : List Int)
  | rt (d : D) (hd : List Int)
abbrev RB := List Vl → List Int → Option OutM
def EndM (K : PySem.W.Frag) (D : Ends) (p : Addr) (H0 H : Hp) : OutM → Prop
  | .nx env' hd' => ∀ σ' H', St0 K p H0 H' σ' env' hd' → TupLe H H' → D.nx σ' H'
  | .rt d hd' => ∀ v H', Same H0 H' → HandAt H' p hd' → Rep K H' v d → D.rt v H'
theorem EndM.up {K : PySem.W.Frag} {D : Ends} {p : Addr} {H0 H H1 : Hp} {o : OutM} (h : EndM K D p H0 H o) (t : TupLe H H1) : EndM K D p H0 H1 o := by
  cases o with
  | nx e hd => exact fun σ' H' s t' => h σ' H' s (t.trans t')
  | rt r hd => exact h
def tB (K : PySem.W.Frag) (p : Addr) (f : RB) : TS := fun D σ H => ∃ H0 env hd out, St0 K p H0 H σ env hd ∧ f env hd = some out ∧ EndM K D p H0 H out
section
variable {K : PySem.W.Frag} {X : Cx} {a b c e : Expr} {es : List Expr} {pos pos' : Pos} {x : PySem.Str} {pp : Pos} {s : Stmt} {ss : List Stmt} {i : Nat} {p : Addr} {fa fb : RM} {ga : RT} {f g : RB} {fx : RMx}
def lft (f : List Vl → Option Out) : RB := fun env hd => (f env).bind fun o => match o with
  | .nx e => if e.all noL = true then some (.nx e hd) else none
  | .rt (.d d) => some (.rt d hd)
  | _ => none
theorem b_D {f : List Vl → Option Out} (h : PS X s (tS K f)) : PS X s (tB K p (lft f)) := ps_wk h fun D σ H hq => by
  obtain ⟨H0, env, hd, out, st, hf, q⟩ := hq
  obtain ⟨o, h1, hf⟩ := Option.bind_eq_some_iff.mp hf
  refine ⟨baseH H0 p hd, env, o, st.sH, st.re, h1, ?_⟩
  cases o with
  | nx e =>
    have hf : (if e.all noL = true then some (OutM.nx e hd) else none) = some out := hf
    split at hf
    · rename_i hn
      cases hf
      exact fun σ' H' s' t' he => q σ' H' (St0.of st.free s' he hn) t'
    · cases hf
  | rt r =>
    cases r with
    | d d =>
      cases hf
      exact fun v H' s' hv => q v H' (st.sHs.trans s') (s' _ _ base_at) hv
    | o _ => cases hf
    | p _ _ => cases hf
    | i _ _ => cases hf
def bNil : RB := fun env hd => some (.nx env hd)
def bSeq (f g : RB) : RB := fun env hd => (f env hd).bind fun o => match o with
  | .nx e h => g e h
  | .rt r h => some (.rt r h)
theorem bs_nil : PSs X [] (tB K p bNil) := pss_wk pss_nil fun D σ H h => by
  obtain ⟨H0, env, hd, out, st, hf, q⟩ := h
  cases hf
  exact q σ H st TupLe.refl
theorem bs_one (h : PS X s (tB K p f)) : PSs X [s] (tB K p f) := pss_one h
theorem bs_cons (h1 : PS X s (tB K p f)) (h2 : PSs X ss (tB K p g)) : PSs X (s :: ss) (tB K p (bSeq f g)) := pss_wk (pss_cons h1 h2) fun D σ H h => by
  obtain ⟨H0, env, hd, out, st, hf, q⟩ := h
  obtain ⟨o, h1, hf⟩ := Option.bind_eq_some_iff.mp hf
  refine ⟨H0, env, hd, o, st, h1, ?_⟩
  cases o with
  | nx e hd' => exact fun σ' H' st1 t1 => ⟨H0, e, hd', out, st1, hf, q.up t1⟩
  | rt r hd' => cases hf; exact q
def bIf (t : RT) (f g : RB) : RB := fun env hd => (t env hd).bind fun r => if r.1 = true then f env r.2 else g env r.2
theorem b_if {sa sb : List Stmt} (hc : PT X c (tMT K p ga)) (ha : PSs X sa (tB K p f)) (hb : PSs X sb (tB K p g)) : PS X (.If c sa sb pos) (tB K p (bIf ga f g)) := ps_wk (ps_if hc ha hb) fun D σ H h => by
  obtain ⟨H0, env, hd, out, st, hf, q⟩ := h
  obtain ⟨r, h1, hf⟩ := Option.bind_eq_some_iff.mp hf
  refine ⟨H0, env, hd, r, st, h1, fun H1 st1 t1 => ?_⟩
  by_cases hk : r.1 = true
  · rw [if_pos hk] at hf
    show (if r.1 = true then _ else _)
    rw [if_pos hk]
    exact ⟨H0, env, r.2, out, st1, hf, q.up t1⟩
  · rw [if_neg hk] at hf
    show (if r.1 = true then _ else _)
    rw [if_neg hk]
    exact ⟨H0, env, r.2, out, st1, hf, q.up t1⟩
def bAsg (i : Nat) (f : RM) : RB := fun env hd => (f env hd).map fun r => .nx (env.set i (.d r.1)) r.2
theorem b_asg (hN : X.N.Nodup) (h : PE X e (tM K p fa)) (hi : X.N[i]? = some x := by rfl) (hx : Loc X.env.scope x := by first | exact Or.inl rfl | exact Or.inr rfl) (hs : swapsWith e (some (.Name x pos')) pos.line X.env = pure false := by rfl)
    (hf : X.fn x = true ∨ X.env.scope.names.lookup x = some .local := by first | exact .inl rfl | exact .inr rfl | assumption) : PS X (.Assign [.Name x pos'] e pos) (tB K p (bAsg i fa)) := ps_wk (ps_set hN hi hx h hs hf) fun D σ H h => by
  obtain ⟨H0, env, hd, out, st, hf, q⟩ := h
  obtain ⟨r, h1, hf⟩ := Option.map_eq_some_iff.mp hf
  subst hf
  exact ⟨H0, env, hd, r, st, h1, fun v H1 st1 t1 hv => q _ H1 (st1.setD hv) t1⟩
def bRet (f : RM) : RB := fun env hd => (f env hd).map fun r => .rt r.1 r.2
theorem b_ret (h : PE X e (tM K p fa)) : PS X (.Return (some e) pos) (tB K p (bRet fa)) := ps_wk (ps_ret h) fun D σ H h => by
  obtain ⟨H0, env, hd, out, st, hf, q⟩ := h
  obtain ⟨r, h1, hf⟩ := Option.map_eq_some_iff.mp hf
  subst hf
  exact ⟨H0, env, hd, r, st, h1, fun v H1 st1 t1 hv => q v H1 st1.s0 st1.hand hv⟩
/-- hand[k] = e -/
def bPut (p : Addr) (i k : Nat) (f : RM) : RB := fun env hd => if atHand p i env = true then (f env hd).bind fun r => (intOf (.d r.1)).bind fun z => if k < r.2.length then some (.nx env (r.2.set k z)) else none else none
theorem b_put {k j : Nat} {kp tpos : Pos} (he' : PE X e (tM K p fa)) (hN : X.N[i]? = some x := by rfl) (hv : Vis X.env.scope x := by first | exact Or.inl rfl | exact Or.inr (Or.inl rfl) | exact Or.inr (Or.inr rfl))
    (hd : (x == ("__debug__" : PySem.Str)) = false := by decide) (hcd : (x == ("__classdict__" : PySem.Str)) = false := by decide)
    (ha : ∀ v, assign (.Subscript (.Name x pp) (.Constant (.int (k : Nat)) j kp) tpos) X.env v = (do
      let ov ← holding [v] (eval (.Name x pp) X.env)
      let iv ← holding [v, ov] (eval (.Constant (.int (k : Nat)) j kp) X.env)
      standAt tpos
      holding [v, ov, iv] (setItem ov iv v)
      release [v, ov, iv] []) := by intro _; rfl)
    (hs : swapsWithSole [.Subscript (.Name x pp) (.Constant (.int (k : Nat)) j kp) tpos] e pos.line X.env = pure false := by rfl) (hw : swappedStores [.Subscript (.Name x pp) (.Constant (.int (k : Nat)) j kp) tpos] e X.env = pure none := by rfl)
    (h1 : (assignEach [.Subscript (.Name x pp) (.Constant (.int (k : Nat)) j kp) tpos] X.env).map (·.2) = [assign (.Subscript (.Name x pp) (.Constant (.int (k : Nat)) j kp) tpos) X.env] := by rfl) :
    PS X (.Assign [.Subscript (.Name x pp) (.Constant (.int (k : Nat)) j kp) tpos] e pos) (tB K p (bPut p i k fa)) := by
  refine ps_wk (ps_asg he' (pg_sub (pe_var hN hv hd hcd) pe_int set_list ha) hs hw h1) fun D σ H h => ?_
  obtain ⟨H0, env, hd, out, st, hf, q⟩ := h
  unfold bPut at hf
  split at hf
  · rename_i hh
    obtain ⟨r, h1, hf⟩ := Option.bind_eq_some_iff.mp hf
    obtain ⟨z, h2, hf⟩ := Option.bind_eq_some_iff.mp hf
    split at hf
    · rename_i hk
      cases hf
      refine ⟨H0, env, hd, r, st, h1, fun v H1 st1 t1 hv => ⟨_, atHand_ok st1.ok hh, p, r.2.map V.int, (k : Int), k, rfl, rfl, st1.hand, ?_, ?_⟩⟩
      · unfold ixN
        rw [if_pos (by omega), if_pos (by rw [List.length_map]; omega)]
        simp
      · have ev : v = .int z := (show RepX K Any H0 H1 v (.d r.1) from hv).int h2
        subst ev
        have em : (r.2.map V.int).set k (.int z) = (r.2.set k z).map V.int := by rw [List.map_set]
        rw [em]
        have hp : H1 p = some (.lst (r.2.map V.int)) := st1.hand
        exact q σ _ ⟨same_upd0 st1.s0 st1.free, st1.ok.updFar hp st1.far, st1.free, st1.far, upd_same⟩ (t1.trans (tup_upd hp))
    · cases hf
  · cases hf
/-- a, b = drawn pair -/
def bUnp (is : List Nat) (f : RM) : RB := fun env hd => (f env hd).bind fun r => (anyTup (.d r.1)).bind fun xs => if xs.length = is.length then some (.nx (setAll is xs env) r.2) else none
theorem setAll_st {H0 H : Hp} {hd : List Int} {Q : L2.St → Hp → Prop} : ∀ {is : List Nat} {ds : List D} {vs : List V} {σ : L2.St} {env : List Vl}, RepL K H vs ds → ds.length = is.length → St0 K p H0 H σ env hd →
    (∀ σ', St0 K p H0 H σ' (setAll is ds env) hd → Q σ' H) → gNames is vs σ H Q
  | [], ds, vs, σ, env, r, hl, he, q => by
    cases ds with
    | nil => cases r; exact ⟨rfl, q σ he⟩
    | cons _ _ => simp at hl
  | i :: is, ds, vs, σ, env, r, hl, he, q => by
    cases ds with
    | nil => simp at hl
    | cons d ds =>
      cases r with
      | cons h1 h2 => exact ⟨_, _, rfl, setAll_st h2 (by simpa using hl) (he.setD h1) q⟩
theorem b_unp {is : List Nat} {k : Nat} {tpos : Pos} (hK : X.K = K) (hc : X.calm = true) (hg : PGs X es (gNames is)) (h : PE X e (tM K p fa)) (hn : (assignEach es X.env).length = is.length := by rfl) (hst : (assignEach es X.env).findIdx? (·.1) = none := by rfl)
    (hs : swapsWithSole [.Tuple es k tpos] e pos.line X.env = pure false := by rfl) (hw : swappedStores [.Tuple es k tpos] e X.env = pure none := by rfl)
    (h1 : (assignEach [.Tuple es k tpos] X.env).map (·.2) = [assign (.Tuple es k tpos) X.env] := by rfl) : PS X (.Assign [.Tuple es k tpos] e pos) (tB K p (bUnp is fa)) := by
  subst hK
  refine ps_wk (ps_asg h (pg_tup hc hg hn hst) hs hw h1) fun D σ H h => ?_
  obtain ⟨H0, env, hd, out, st, hf, q⟩ := h
  obtain ⟨r, h1, hf⟩ := Option.bind_eq_some_iff.mp hf
  obtain ⟨xs, h2, hf⟩ := Option.bind_eq_some_iff.mp hf
  split at hf
  · rename_i hl
    cases hf
    refine ⟨H0, env, hd, r, st, h1, fun v H1 st1 t1 hv => ?_⟩
    obtain ⟨a, vs, rfl, hT, rr⟩ := (show RepX X.K Any H0 H1 v (.d r.1) from hv).any' h2
    exact ⟨a, vs, rfl, hT, by rw [rr.length, hl], setAll_st rr hl st1 fun σ' st' => q σ' H1 st' t1⟩
  · cases hf
/-! ### for over a range -/
def forB (i : Nat) (body : RB) : Nat → Nat → List Vl → List Int → Option OutM
  | 0, _, env, hd => some (.nx env hd)
  | r + 1, k, env, hd => (body (env.set i (.d (.int (k : Nat)))) hd).bind fun o => match o with
    | .nx e h => forB i body r (k + 1) e h
    | .rt d h => some (.rt d h)
def rngN : List Vl → Option Nat
  | [a] => (intOf a).bind fun j => if lims j = true then some j.toNat else none
  | _ => none
def bFor (i : Nat) (src : RMx) (body : RB) : RB := fun env hd => (src env hd).bind fun r => (rngN r.1).bind fun n => forB i body n 0 env r.2
theorem rngN_ok {H0 H : Hp} {N : Addr → Prop} {vs : List V} {xs : List Vl} {n : Nat} (h : RepXs K N H0 H vs xs) (e : rngN xs = some n) : ∃ j : Int, vs = [.int j] ∧ -(2 ^ 62) ≤ j ∧ j < 2 ^ 62 ∧ j.toNat = n := by
  cases h with
  | nil => cases e
  | cons h1 t =>
    cases t with
    | cons _ _ => cases e
    | nil =>
      obtain ⟨j, e1, hf⟩ := Option.bind_eq_some_iff.mp e
      split at hf
      · rename_i hl
        cases hf
        obtain ⟨l1, l2⟩ := lims_ok hl
        exact ⟨j, by rw [h1.int e1], l1, l2, rfl⟩
      · cases hf
theorem b_for {tpos cpos rp : Pos} {body : List Stmt} (hp : PassesOwn (model X.prog X.w) X.A X.env X.xe) (hc : X.calm = true) (hgr : Gl X "range") (hm : X.mg "range" = none) (hx : PA X [a] (tMX K p fx)) (hNd : X.N.Nodup) (hb : PSs X body (tB K p f))
    (hi : X.N[i]? = some x := by rfl) (hl : Loc X.env.scope x := by first | exact Or.inl rfl | exact Or.inr rfl) (hf : X.fn x = true ∨ X.env.scope.names.lookup x = some .local := by first | exact .inl rfl | exact .inr rfl | assumption)
    (hsa : starEach [a] X.env = [(false, eval a X.env)] := by rfl) (hs : ∀ y, foldedSetIterable (.Call (.Name "range" rp) [a] [] cpos) X.env y = pure y := by intro _; rfl) : PS X (.For (.Name x tpos) (.Call (.Name "range" rp) [a] [] cpos) body [] pos) (tB K p (bFor i fx f)) := by
  refine ps_wk (ps_for hp hc (pi_range1 hgr hm hx hsa) (pg_name hNd hi hl hf) hb hs) fun D σ H h => ?_
  obtain ⟨H0, env, hd, out, st, hf, q⟩ := h
  obtain ⟨r, h1, hf⟩ := Option.bind_eq_some_iff.mp hf
  obtain ⟨n, h2, hf⟩ := Option.bind_eq_some_iff.mp hf
  refine ⟨H0, env, hd, r, st, h1, fun vs H1 st1 t1 hvs _ => ?_⟩
  obtain ⟨j, e1, l1, l2, rfl⟩ := rngN_ok hvs h2
  refine ⟨j, e1, l1, l2, ?_⟩
  have q := q.up t1
  refine for_it walk_range (fun k σ H => TupLe H1 H ∧ ∃ env hd, St0 K p H0 H σ env hd ∧ forB i f (j.toNat - k) k env hd = some out) ⟨TupLe.refl, env, r.2, st1, by rw [Nat.sub_zero]; exact hf⟩ (fun _ _ _ _ _ => trivial) ?_ ?_
  · rintro k y σ H H' hk ⟨tH, env, hd, st, hM⟩ ⟨rfl, rfl⟩
    have ek : j.toNat - k = (j.toNat - (k + 1)) + 1 := by omega
    rw [ek] at hM
    obtain ⟨o, hb, hM⟩ := Option.bind_eq_some_iff.mp hM
    refine ⟨H0, _, hd, o, st.setD (v := .int (0 + (k : Int))) (d := .int (k : Nat)) (by rw [Int.zero_add]; exact .int _), hb, ?_⟩
    cases o with
    | nx e3 h3 => exact fun σ3 H3 st3 t3 => ⟨tH.trans t3, e3, h3, st3, hM⟩
    | rt d h3 => cases hM; exact q
  · rintro σ H ⟨tH, env, hd, st, hM⟩
    rw [Nat.sub_self] at hM
    cases hM
    exact q σ H st tH
/-! ### name = [drawn for k in range(..)] -/
def lcB (j : Nat) (elt : RM) (envw : List Vl) : Nat → Nat → List Int → Option (List D × List Int)
  | 0, _, hd => some ([], hd)
  | r + 1, k, hd => (elt (envw.set j (.d (.int (k : Nat)))) hd).bind fun q => (lcB j elt envw r (k + 1) q.2).map fun t => (q.1 :: t.1, t.2)
def bLc (i j : Nat) (vs : List Nat) (src : RMx) (elt : RM) : RB := fun env hd => (src env hd).bind fun r => (rngN r.1).bind fun n => if n ≤ 1000 then (lcB j elt (wipeE env vs) n 0 r.2).map fun t => .nx ((wipeE env vs).set i (.o t.1)) t.2 else none
theorem b_lc {py cpos rp tp spos lpos : Pos} {y : PySem.Str} {elt : Expr} {scope : Scope} {own : List (PySem.Str × Nat)} {vs : List Nat} {j : Nat} {fe : RM} (hc : X.calm = true) (hN : X.N.Nodup) (hy : X.N[i]? = some y) (hyl : X.env.scope.names.lookup y = some .local)
    (hsw : swapsWith (.ListComp elt [⟨.Name x tp, .Call (.Name "range" rp) [a] [] cpos, [], 0⟩] scope lpos) (some (.Name y py)) spos.line X.env = pure true) (hgr : Gl X "range") (hm : X.mg "range" = none) (hx : PA X [a] (tMX K p fx)) (ok : BlkOk X.N X.env.scope scope own) (hvs : own.map (·.2) = vs) (hj : j ∈ vs)
    (hg : ∀ (s : Shared) (H : Hp) (C : Addr) (cl : List (PySem.Str × Addr)) (fp : List Addr), PG (X.blk s H scope (compEnvC scope cl C X.env) fp) (.Name x tp) (gName j))
    (he : ∀ (s : Shared) (H : Hp) (C : Addr) (cl : List (PySem.Str × Addr)) (fp : List Addr), PE (X.blk s H scope (compEnvC scope cl C X.env) fp) elt (tM K p fe)) (hsa : starEach [a] X.env = [(false, eval a X.env)] := by rfl) (hs : ∀ z, foldedSetIterable (.Call (.Name "range" rp) [a] [] cpos) X.env z = pure z := by intro _; rfl) :
    PS X (.Assign [.Name y py] (.ListComp elt [⟨.Name x tp, .Call (.Name "range" rp) [a] [] cpos, [], 0⟩] scope lpos) spos) (tB K p (bLc i j vs fx fe)) := by
  subst hvs
  refine ps_wk (ps_setLc hc hN hy hyl hsw (pi_range1 hgr hm hx hsa) ok hg (fun _ _ _ _ _ => pts_nil) he hs) fun D σ H h => ?_
  obtain ⟨H0, env, hd, out, st, hf, q⟩ := h
  obtain ⟨r, h1, hf⟩ := Option.bind_eq_some_iff.mp hf
  obtain ⟨n, h2, hf⟩ := Option.bind_eq_some_iff.mp hf
  split at hf
  · rename_i hn
    obtain ⟨res, hM, hf⟩ := Option.map_eq_some_iff.mp hf
    subst hf
    refine ⟨H0, env, hd, r, st, h1, fun vs H1 st1 t1 hvs _ => ?_⟩
    obtain ⟨j1, e1, l1, l2, rfl⟩ := rngN_ok hvs h2
    refine ⟨j1, e1, l1, l2, fun L hL => ?_⟩
    have hfarL : ∀ {env' : List Vl}, EnvOk K H0 H1 σ env' → Far L σ env' := fun {env'} he j x e hl z => by
      obtain ⟨v, q1, q2⟩ := he.at_ j x e (isLst_un hl)
      rw [q1] at z
      cases z
      obtain ⟨a, ob, e2, e3⟩ := lst_at q2 hl
      cases e2
      rw [hL] at e3
      cases e3
    have hLp : L ≠ p := fun z => by
      have := st1.hand
      unfold HandAt at this
      rw [← z, hL] at this
      cases this
    have fL0 : H0 L = none := st1.s0.free hL
    -- the wiped slots
    have stw : St0 K p H0 H1 σ (wipeE env (own.map (·.2))) r.2 := (st1.wipe (own.map (·.2))).swap (vs := own.map (·.2)) (wipe_length _ _).symm (fun i hi => (wipe_out hi).symm) rfl (fun i hi hl => wipeE_in hi (by rw [wipeE_length] at hl; exact hl)) fun _ _ => rfl
    have farL := hfarL stw.ok
    have s1L : Same H1 (upd H1 L (.lst [])) := same_new hL
    refine lc_it walk_range (fun k H => TupLe H1 H ∧ ∃ hd acc ads rest, St0 K p H0 H σ (wipeE env (own.map (·.2))) hd ∧ H L = some (.lst acc) ∧ RepL K H acc ads ∧ acc.length = k ∧ lcB j fe (wipeE env (own.map (·.2))) (j1.toNat - k) k hd = some rest ∧ ads ++ rest.1 = res.1 ∧ rest.2 = res.2)
      ⟨same_tup s1L, r.2, [], [], res, stw.same s1L, upd_same, .nil, rfl, by rw [Nat.sub_zero]; exact hM, rfl, rfl⟩ (fun _ _ _ _ => trivial) ?_ ?_
    · rintro k y H H' hk ⟨tH, hd, acc, ads, rest, st, hacc, racc, hal, hrest, hr1, hr2⟩ ⟨rfl, rfl⟩
      have ek : j1.toNat - k = (j1.toNat - (k + 1)) + 1 := by omega
      rw [ek] at hrest
      obtain ⟨q1, hq1, hrest⟩ := Option.bind_eq_some_iff.mp hrest
      obtain ⟨t, ht, hrest⟩ := Option.map_eq_some_iff.mp hrest
      subst hrest
      show L2.wipe ((L2.wipe σ (own.map (·.2))).set j (some (.int (0 + (k : Int))))) (own.map (·.2)) = _ ∧ _
      refine ⟨by rw [wipe_set hj, wipe_wipe], ?_⟩
      show tM K p fe _ H' _
      -- the new list among what stands
      let B := upd H0 L (.lst acc)
      have sB : Same H0 B := same_new fL0
      have stB : St0 K p B H' σ (wipeE env (own.map (·.2))) hd := ⟨fun b o e => by
        by_cases hb : b = L
        · subst hb
          rw [show B b = some (.lst acc) from upd_same] at e
          cases e
          exact hacc
        · rw [show B b = H0 b from upd_ne hb] at e
          exact st.s0 _ _ e, st.ok.more farL, by show upd H0 L _ p = none; rw [upd_ne (fun z => hLp z.symm)]; exact st.free, st.far, st.hand⟩
      have stB2 : St0 K p B H' ((L2.wipe σ (own.map (·.2))).set j (some (.int (0 + (k : Int))))) ((wipeE env (own.map (·.2))).set j (.d (.int (k : Nat)))) hd := by
        have w := stB.wipe (own.map (·.2))
        have w2 : St0 K p B H' (L2.wipe σ (own.map (·.2))) (wipeE env (own.map (·.2))) hd := w.swap (vs := own.map (·.2)) rfl (fun _ _ => rfl) (wipeE_length _ _).symm (fun i hi hl => wipeE_in hi (by rw [wipeE_length] at hl; exact hl)) (fun i hi => (wipeE_out hi).symm)
        exact w2.setD (by rw [Int.zero_add]; exact .int _)
      refine ⟨B, _, hd, q1, stB2, hq1, fun v H4 st4 t4 hv => ?_⟩
      have hL4 : H4 L = some (.lst acc) := st4.s0 _ _ upd_same
      have st5 : St0 K p B H4 σ (wipeE env (own.map (·.2))) q1.2 := st4.swap (vs := own.map (·.2)) (by rw [List.length_set, wipe_length]) (fun i hi => by
        rw [List.getElem?_set_ne (fun z : j = i => hi (by rw [← z]; exact hj)), wipe_out hi]) (by rw [List.length_set]) (fun i hi hl => wipeE_in hi (by rw [wipeE_length] at hl; exact hl)) (fun i hi => by
        rw [List.getElem?_set_ne (fun z : j = i => hi (by rw [← z]; exact hj))])
      have tu : TupLe H4 (upd H4 L (.lst (acc ++ [v]))) := tup_upd hL4
      refine ⟨acc, hL4, by rw [sizeLine_eq]; omega, tH.trans (t4.trans tu), q1.2, acc ++ [v], ads ++ [q1.1], t, ?_, upd_same, ((racc.mono t4).mono tu).snoc (Rep.mono tu _ _ hv), by rw [List.length_append, hal]; rfl, ht, by rw [← hr1]; simp, hr2⟩
      refine ⟨same_upd0 (sB.trans st5.s0) fL0, (EnvOk.base st5.ok fun a ob h _ => sB.free h).updFar hL4 farL, st.free, st.far, ?_⟩
      show upd H4 L _ p = _
      rw [upd_ne (fun z => hLp z.symm)]
      exact st5.hand
    · rintro H2 ⟨tH, hd, acc, ads, rest, st, hacc, racc, hal, hrest, hr1, hr2⟩
      rw [Nat.sub_self] at hrest
      cases hrest
      rw [List.append_nil] at hr1
      have hr2 : hd = res.2 := hr2
      subst hr1 hr2
      refine q _ H2 ⟨st.s0, st.ok.set (x := .o res.1) ⟨L, acc, rfl, fL0, hacc, racc⟩ rfl (fun _ j y e ly _ => farL j y e ly) (fun _ j y e oy _ => farL j y e (isOwn_lst oy)), st.free, fun j x e hl z => ?_, st.hand⟩ (t1.trans tH)
      by_cases hj : i = j
      · subst hj
        have hi : i < (wipeE env (own.map (·.2))).length := by
          have := (List.getElem?_eq_some_iff.mp e).1
          rwa [List.length_set] at this
        rw [List.getElem?_set_self (by rw [st.ok.len]; exact hi)] at z
        cases z
        exact hLp rfl
      · rw [List.getElem?_set_ne hj] at e z
        exact st.far j x e hl z
  · cases hf
/-! ### defs that draw -/
def fnB (n m : Nat) (body : Addr → RB) : RF := fun p hd as => if as.length = n then (body p (.a p :: as ++ List.replicate m .un) hd).bind fun o => match o with
  | .rt d h => some (d, h)
  | .nx _ _ => none else none
theorem def_okB {P : Program} {w : World} {mg : PySem.Str → Option Value} {base : Heap} {nm qual : PySem.Str} {params : Arguments} {bd : List Stmt} {scope : Scope} {ft : Addr} {fd : FuncData} {N ps : List PySem.Str} {k m n : Nat} {f : Addr → RB}
    (FD : FunD K nm qual params bd scope [] [] ft fd) (S : FnScope N ps scope) (hn : ps.length = n + 1) (hm : N.length = ps.length + m)
    (hbody : ∀ (p : Addr) (cdv : Value) (A : Around) (outer : List Env) (s : Shared) (H : Hp) (E : XK), Room k (A.deeper (envOfC qual scope s.heap.objs.size ft cdv)) → PSs (cxOf CX0 P w K mg base N qual scope ft cdv A outer s H E).nox bd (tB K p (f p))) :
    FnOk P w K mg base CX0 (k + 1) ft fd ps (spB K n (fnB n m f)) := by
  refine FD.ok S (fun vs H Q E h => by rw [hn]; exact h.1) fun cdv A outer s H vs Q E hr h => ?_
  obtain ⟨hl, p, hd, ws, as, r, rfl, hh, hv, ok, far, hF, q⟩ := h
  refine ⟨tB K p (f p), PSs.nox (hbody p cdv A outer s H E hr), ?_⟩
  have hla := RepXs.length hv
  unfold fnB at hF
  split at hF
  · rename_i hn2
    obtain ⟨o, h1, hF⟩ := Option.bind_eq_some_iff.mp hF
    have he := env_start (N := N) (m := m) (vs := .ref p :: ws) (as := .a p :: as) (.cons (show RepX K Any H H (.ref p) (.a p) from rfl) hv) (by rw [List.all_cons, ok]; rfl) (by rw [List.length_cons]; omega)
    have farE : Far p (L2.start N (.ref p :: ws)) (.a p :: as ++ List.replicate m .un) := fun j x e hx => by
      cases j with
      | zero => cases e; cases hx
      | succ j =>
        rw [List.cons_append, List.getElem?_cons_succ] at e
        by_cases hj : j < as.length
        · rw [List.getElem?_append_left hj] at e
          have z := far j x e hx
          show (some (V.ref p) :: (ws.map some ++ _))[j + 1]? ≠ _
          rw [List.getElem?_cons_succ, List.getElem?_append_left (by rw [List.length_map]; omega), List.getElem?_map]
          intro z2
          obtain ⟨v, z3, z4⟩ := Option.map_eq_some_iff.mp z2
          cases z4
          exact z z3
        · rw [List.getElem?_append_right (by omega)] at e
          rw [(List.mem_replicate.mp (List.mem_of_getElem? e)).2] at hx
          cases hx
    refine ⟨hole H p, _, hd, o, ⟨hole_same, he.base (fun a ob h1 h2 => by rw [h1] at h2; cases h2), hole_at, farE, hh⟩, h1, ?_⟩
    cases o with
    | nx e2 h2 => cases hF
    | rt d h2 =>
      cases hF
      exact fun v H' s' hh' hv' => q v H' s' hh' hv'
  · cases hF
end
end K98

/-! ## ML3 -/
/-! What the law asks of the layer besides: range of two, in a list, any of a comprehension, bools as values. -/
namespace K98
open PySem PySem.Spec PyProof.Rows L2
section
variable {K : PySem.W.Frag} {X : Cx} {a b c e : Expr} {es : List Expr} {fa fb fc : List Vl → Option Vl} {fs : List Vl → Option (List Vl)} {ga gb : List Vl → Option Bool} {pos pos' : Pos} {x : PySem.Str} {p : Pos} {s : Stmt} {ss : List Stmt} {f g : List Vl → Option Out} {i : Nat}
def sRng2 (f : List Vl → Option (List Vl)) : List Vl → Option (List D) := fun env => (f env).bind fun as => match as with
  | [a, b] => (intOf a).bind fun i => (intOf b).bind fun j => if (lims i && lims j) = true then some (rowI i 1 (j - i).toNat) else none
  | _ => none
theorem i_rng2 {tg : Expr} {own : Bool} (hg : Gl X "range") (hm : X.mg "range" = none) (ha : PA X [a, b] (tA K fs)) (hs : starEach [a, b] X.env = [(false, eval a X.env), (false, eval b X.env)] := by rfl) (hs2 : starEach [b] X.env = [(false, eval b X.env)] := by rfl) :
    PI X tg (.Call (.Name "range" p) [a, b] [] pos) (tI K own (sRng2 fs)) := by
  refine pi_wk (pi_range2 hg hm ha hs hs2) fun σ H R h => ?_
  obtain ⟨H0, env, ds, s0, he, hf, q⟩ := h
  obtain ⟨as, hx, hf⟩ := Option.bind_eq_some_iff.mp hf
  refine ⟨H0, env, as, s0, he, hx, fun vs H1 s1 hv => ?_⟩
  cases hv with
  | nil => cases hf
  | cons h1 t =>
    cases t with
    | nil => cases hf
    | cons h2 t =>
      cases t with
      | cons _ _ => cases hf
      | nil =>
        obtain ⟨i, e1, hf⟩ := Option.bind_eq_some_iff.mp hf
        obtain ⟨j, e2, hf⟩ := Option.bind_eq_some_iff.mp hf
        split at hf
        · rename_i hl
          cases hf
          rw [Bool.and_eq_true] at hl
          obtain ⟨l1, l2⟩ := lims_ok hl.1
          obtain ⟨l3, l4⟩ := lims_ok hl.2
          exact ⟨i, j, by rw [h1.int e1, h2.int e2], ⟨l1, l2, l3, l4⟩, q _ H1 none s1 (fun _ _ e => nomatch e) fun Hs _ => gives_range⟩
        · cases hf
/-! ### in a list -/
def listOf : Vl → Option (List PyData) := fun b => (lstOf b).map pds
theorem RepX.dpl {N : Addr → Prop} {H0 H : Hp} {v : V} {x : Vl} {ds : List PyData} (h : RepX K N H0 H v x) (e : listOf x = some ds) : Dp K H v (.list ds) := by
  obtain ⟨xs, h1, e⟩ := Option.map_eq_some_iff.mp e
  subst e
  obtain ⟨a, vs, rfl, q, r⟩ := h.lst h1
  exact .lst (.of q) (RepL.dp xs vs r)
def gInL (k : Bool) : Vl → Vl → Option Bool := fun a b => (deepOf a).bind fun x => (listOf b).bind fun ds => if SeqAt.shaped x = true ∧ SeqAt.shaped (.list ds) = true then some ((ds.any fun z => PyData.eqv z x) == k) else none
def cInL (fa fb : List Vl → Option Vl) : List Vl → Option Bool := t2 (gInL true) fa fb
def cNotInL (fa fb : List Vl → Option Vl) : List Vl → Option Bool := t2 (gInL false) fa fb
theorem ru_inL {H0 H : Hp} {x y : V} {a b : Vl} {k : Bool} {Q : VK} (s0 : Same H0 H) (hx : RepX K Any H0 H x a) (hy : RepX K Any H0 H y b) (hg : gInL true a b = some k) (q : ∀ H', Same H H' → Q (.bl k) H') : rInD K x y H Q := by
  obtain ⟨d, h1, hg⟩ := Option.bind_eq_some_iff.mp hg
  obtain ⟨ds, h2, hg⟩ := Option.bind_eq_some_iff.mp hg
  split at hg
  · rename_i hc
    cases hg
    have q := q H (Same.refl H)
    rw [beq_true] at q
    exact ⟨d, ds, hx.deep h1, hy.dpl h2, hc.1, hc.2, q⟩
  · cases hg
theorem ct_inL (hK : X.K = K) (hu : X.A.units + 100 < cLine) (ha : PE X a (tD K fa)) (hb : PE X b (tD K fb)) (hm : behindInMarks .In b = false := by rfl) : PT X (.Compare a [.In] [b] pos) (tT K (cInL fa fb)) := by
  subst hK
  exact pt_wk (pt_cmpR (op_inD (by omega)) ha hb hm) (denT fun H0 H x y a b k Q s0 hx hy hg q => ru_inL s0 hx hy hg q)
theorem ct_notInL (hK : X.K = K) (hu : X.A.units + 100 < cLine) (ha : PE X a (tD K fa)) (hb : PE X b (tD K fb)) (hm : behindInMarks .NotIn b = false := by rfl) : PT X (.Compare a [.NotIn] [b] pos) (tT K (cNotInL fa fb)) := by
  subst hK
  refine pt_wk (pt_cmpR (op_notInD (by omega)) ha hb hm) (denT fun H0 H x y a b k Q s0 hx hy hg q => ?_)
  obtain ⟨d, h1, hg⟩ := Option.bind_eq_some_iff.mp hg
  obtain ⟨ds, h2, hg⟩ := Option.bind_eq_some_iff.mp hg
  split at hg
  · rename_i hc
    cases hg
    have q := q H (Same.refl H)
    rw [beq_false] at q
    exact ⟨d, ds, hx.deep h1, hy.dpl h2, hc.1, hc.2, q⟩
  · cases hg
/-! ### bools as values -/
def tBV (K : PySem.W.Frag) (f : List Vl → Option Bool) : TE := fun σ H Q => ∃ H0 env b, Same H0 H ∧ EnvOk K H0 H σ env ∧ f env = some b ∧ ∀ H', Same H H' → Q (.bl b) H'
theorem denB {r : R2} {g : Vl → Vl → Option Bool} (hr : RuT K r g) (σ : L2.St) (H : Hp) (Q : VK) (h : tBV K (t2 g fa fb) σ H Q) : tOp r (tD K fa) (tD K fb) σ H Q := by
  obtain ⟨H0, env, val, s0, he, hf, q⟩ := h
  obtain ⟨a, ha, hf⟩ := Option.bind_eq_some_iff.mp hf
  obtain ⟨b, hb, hg⟩ := Option.bind_eq_some_iff.mp hf
  refine ⟨H0, env, a, s0, he, ha, fun v H' s1 hv => ?_⟩
  refine ⟨H0, env, b, s0.trans s1, he.same s1, hb, fun u H'' s2 hu => ?_⟩
  exact hr H0 H'' v u a b val _ ((s0.trans s1).trans s2) (hv.any.same s2) hu.any hg fun H3 s3 => q H3 ((s1.trans s2).trans s3)
theorem bv_le (ha : PE X a (tD K fa)) (hb : PE X b (tD K fb)) : PE X (.Compare a [.LtE] [b] pos) (tBV K (cLe fa fb)) := pe_wk (pe_cmpR op_le ha hb (nomark _)) (denB ru_C)
theorem bv_gt (ha : PE X a (tD K fa)) (hb : PE X b (tD K fb)) : PE X (.Compare a [.Gt] [b] pos) (tBV K (cGt fa fb)) := pe_wk (pe_cmpR op_gt ha hb (nomark _)) (denB ru_C)
theorem bv_isN (ha : PE X a (tD K fa)) (hb : PE X b (tD K fb)) : PE X (.Compare a [.Is] [b] pos) (tBV K (cIsN fa fb)) := by
  refine pe_wk (pe_cmpR op_isN ha hb (nomark _)) (denB fun H0 H x y a b k Q s0 hx hy hg q => ?_)
  obtain ⟨d, h1, hg⟩ := Option.bind_eq_some_iff.mp hg
  split at hg
  · cases hg
    cases (show Rep K H y .non from hy)
    refine ⟨rfl, ?_⟩
    rw [(hx.dat h1).non_iff]
    have := q H (Same.refl H)
    cases e : isNonD d <;> rw [e] at this <;> exact this
  · cases hg
theorem bv_inL (hK : X.K = K) (hu : X.A.units + 100 < cLine) (ha : PE X a (tD K fa)) (hb : PE X b (tD K fb)) (hm : behindInMarks .In b = false := by rfl) : PE X (.Compare a [.In] [b] pos) (tBV K (cInL fa fb)) := by
  subst hK
  exact pe_wk (pe_cmpR (op_inD (by omega)) ha hb hm) (denB fun H0 H x y a b k Q s0 hx hy hg q => ru_inL s0 hx hy hg q)
theorem bv_and (ha : PE X a (tBV K ga)) (hb : PE X b (tBV K gb)) : PE X (.BoolOp .And [a, b] pos) (tBV K (cAnd ga gb)) := pe_wk (pe_and ha (pe_one hb)) fun σ H Q h => by
  obtain ⟨H0, env, k, s0, he, hf, q⟩ := h
  obtain ⟨j, h1, hf⟩ := Option.bind_eq_some_iff.mp hf
  refine ⟨H0, env, j, s0, he, h1, fun H1 s1 => ⟨j, rfl, ?_⟩⟩
  by_cases hj : j = true
  · rw [if_pos hj] at hf ⊢
    exact ⟨H0, env, k, s0.trans s1, he.same s1, hf, fun H2 s2 => q H2 (s1.trans s2)⟩
  · rw [if_neg hj] at hf ⊢
    cases hf
    exact q H1 s1
/-- a bool != a bool -/
def cXor (ga gb : List Vl → Option Bool) : List Vl → Option Bool := fun env => (ga env).bind fun x => (gb env).map fun y => x != y
theorem ct_xor (hK : X.K = K) (hu : X.A.units + 100 < cLine) (ha : PE X a (tBV K ga)) (hb : PE X b (tBV K gb)) : PT X (.Compare a [.NotEq] [b] pos) (tT K (cXor ga gb)) := by
  subst hK
  refine pt_wk (pt_cmpR (op_neD (by omega)) ha hb (nomark _)) fun σ H Q h => ?_
  obtain ⟨H0, env, k, s0, he, hf, q⟩ := h
  obtain ⟨x, h1, hf⟩ := Option.bind_eq_some_iff.mp hf
  obtain ⟨y, h2, hf⟩ := Option.map_eq_some_iff.mp hf
  subst hf
  refine ⟨H0, env, x, s0, he, h1, fun H1 s1 => ⟨H0, env, y, s0.trans s1, he.same s1, h2, fun H2 s2 => ?_⟩⟩
  refine ⟨.bool x, .bool y, .bl x, .bl y, rfl, rfl, (x != y), ?_, q H2 (s1.trans s2)⟩
  cases x <;> cases y <;> rfl
/-! ### any of a comprehension -/
def anyM (gd : D → List Vl → Option (List Vl)) (elt : List Vl → Option Bool) (envw : List Vl) : List D → Option (List Bool)
  | [] => some []
  | d :: r => (gd d envw).bind fun e2 => (elt e2).bind fun k => (anyM gd elt envw r).map fun l => k :: l
def cAny (src : List Vl → Option (List D)) (gd : D → List Vl → Option (List Vl)) (elt : List Vl → Option Bool) (vs : List Nat) : List Vl → Option Bool :=
  fun env => (src env).bind fun ds => if ds.length ≤ 1000 then (anyM gd elt (wipeE env vs) ds).map fun l => l.any id else none
theorem any_wk {own : Bool} {src : List Vl → Option (List D)} {gd : D → List Vl → Option (List Vl)} {idx : List Nat} {elt : List Vl → Option Bool} {vs : List Nat} (hidx : ∀ i ∈ idx, i ∈ vs) (σ : L2.St) (H : Hp) (Q : Bool → Hp → Prop)
    (h : tT K (cAny src gd elt vs) σ H Q) : tLc (tI K own src) (tG K gd idx) (tT K cYes) (tBV K elt) vs σ H (fun y H1 => rAny K [y] H1 fun v H2 => ∃ b, v = V.bl b ∧ Q b H2) := by
  obtain ⟨H0, env, val, s0, he, hf, q⟩ := h
  obtain ⟨ds, hsrc, hf⟩ := Option.bind_eq_some_iff.mp hf
  split at hf
  · rename_i hlen
    obtain ⟨out, hM, hf⟩ := Option.map_eq_some_iff.mp hf
    subst hf
    refine ⟨H0, env, ds, s0, he, hsrc, fun J H1 o s1 ho hG D hD => ?_⟩
    obtain ⟨G, Y, w, hGs, hY⟩ := (hG H1 fun p vs e => (ho p vs e).2).ex
    refine lc_it w (fun i H => Same H1 H ∧ ∃ acc : List Bool, H D = some (.lst (acc.map V.bl)) ∧ acc.length ≤ i ∧ ∃ rest, anyM gd elt (wipeE env vs) (ds.drop i) = some rest ∧ acc ++ rest = out)
      ⟨same_new hD, [], upd_same, Nat.le_refl _, out, hM, rfl⟩ (fun i H _ p => hGs H p.1 (same_tup p.1)) ?_ ?_
    · rintro i x H H' hi ⟨sH, acc, hacc, hal, rest, hrest, hout⟩ y
      obtain ⟨sHH, d, hd, rd⟩ := hY i H x H' hi sH (same_tup sH) y
      have hdrop : ds.drop i = d :: ds.drop (i + 1) := by
        obtain ⟨hi', e⟩ := List.getElem?_eq_some_iff.mp hd
        rw [List.drop_eq_getElem_cons hi', e]
      rw [hdrop] at hrest
      obtain ⟨e2, hgd, hrest⟩ := Option.bind_eq_some_iff.mp hrest
      obtain ⟨k, ht, hrest⟩ := Option.bind_eq_some_iff.mp hrest
      obtain ⟨l, hl, hrest⟩ := Option.map_eq_some_iff.mp hrest
      subst hrest
      have s01 : Same H0 H' := ((s0.trans s1).trans sH).trans sHH
      refine ⟨H0, wipeE env vs, d, e2, (he.same ((s1.trans sH).trans sHH)).wipe vs, rd, hgd, fun σ2 he2 hw => ⟨by rw [hw vs hidx, wipe_wipe], H0, e2, true, s01, he2, rfl, fun H3 s3 => ?_⟩⟩
      refine (show ∀ {A B : Prop}, A → (if true = true then A else B) from fun h => h) ?_
      refine ⟨H0, e2, k, s01.trans s3, he2.same s3, ht, fun H4 s4 => ?_⟩
      have hD4 : H4 D = some (.lst (acc.map V.bl)) := s4 _ _ (s3 _ _ (sHH _ _ hacc))
      refine ⟨acc.map V.bl, hD4, by rw [sizeLine_eq, List.length_map]; omega, fun b o e => ?_, acc ++ [k], by rw [List.map_append]; exact upd_same, ?_, l, hl, by rw [← hout]; simp⟩
      · rw [upd_ne (ne_of_none e hD)]
        exact s4 _ _ (s3 _ _ (sHH _ _ (sH _ _ e)))
      · rw [List.length_append, List.length_singleton]; omega
    · rintro H2 ⟨sH, acc, hacc, hal, rest, hrest, hout⟩
      rw [List.drop_length] at hrest
      cases hrest
      rw [List.append_nil] at hout
      subst hout
      exact ⟨D, acc, rfl, .of hacc, _, rfl, q H2 (s1.trans sH)⟩
  · cases hf
theorem ct_any {elt tg iter : Expr} {scope : Scope} {lpos : Pos} {own : List (PySem.Str × Nat)} {ow : Bool} {src : List Vl → Option (List D)} {gd : D → List Vl → Option (List Vl)} {idx : List Nat} {fe : List Vl → Option Bool} {vs : List Nat} (hK : X.K = K) (hc : X.calm = true) (hN : X.N.Nodup) (hgl : Gl X "any") (hm : X.mg "any" = none)
    (hi : PI X tg iter (tI K ow src)) (ok : BlkOk X.N X.env.scope scope own) (hvs : own.map (·.2) = vs) (hidx : ∀ i ∈ idx, i ∈ vs)
    (hg : ∀ (s : Shared) (H : Hp) (C : Addr) (cl : List (PySem.Str × Addr)) (fp : List Addr), PG (X.blk s H scope (compEnvC scope cl C X.env) fp) tg (tG K gd idx))
    (he : ∀ (s : Shared) (H : Hp) (C : Addr) (cl : List (PySem.Str × Addr)) (fp : List Addr), PE (X.blk s H scope (compEnvC scope cl C X.env) fp) elt (tBV K fe)) (hs : ∀ x, foldedSetIterable iter X.env x = pure x := by intro _; rfl)
    (hse : starEach [.ListComp elt [⟨tg, iter, [], 0⟩] scope lpos] X.env = (false, eval (.ListComp elt [⟨tg, iter, [], 0⟩] scope lpos) X.env) :: starEach [] X.env := by rfl) :
    PT X (.Call (.Name "any" p) [.ListComp elt [⟨tg, iter, [], 0⟩] scope lpos] [] pos) (tT K (cAny src gd fe vs)) := by
  subst hvs hK
  have h1 := pe_lc (pos := lpos) hc hN hi ok hg (fun s H C cl fp => ts_nil (K := X.K)) he hs
  refine pt_wk (pt_val (pe_callB (cr_any hc) hgl hm PyProof.Rows.boot_any (pa_cons h1 pa_nil hse) (by decide) (by decide) hse)) fun σ H Q h => ?_
  exact any_wk (own := ow) hidx σ H Q h
/-! ### room, list, dict = e, [], {} -/
def sPar3 (i j l : Nat) (f : List Vl → Option Vl) : List Vl → Option Out := fun env => (f env).bind fun v => (datOf v).bind fun d => if i ≠ j ∧ i ≠ l ∧ j ≠ l then some (.nx (((env.set i (.d d)).set j (.o [])).set l (.k []))) else none
theorem s_par3 {j l : Nat} {tgs : List Expr} {pt lp dp : Pos} {kt k2 pt2} (hK : X.K = K) (hc : X.calm = true) (hg : PGs X tgs (gNames [i, j, l])) (ha : PE X a (tD K fa))
    (hn : (assignEach tgs X.env).length = 3 := by rfl) (hst : (assignEach tgs X.env).findIdx? (·.1) = none := by rfl)
    (hs : swapsWithSole [.Tuple tgs kt pt] (.Tuple [a, .List [] lp, .Dict [] [] dp] k2 pt2) pos.line X.env = pure false := by rfl) (hw : swappedStores [.Tuple tgs kt pt] (.Tuple [a, .List [] lp, .Dict [] [] dp] k2 pt2) X.env = pure none := by rfl)
    (h0 : (assignEach [.Tuple tgs kt pt] X.env).map (·.2) = [assign (.Tuple tgs kt pt) X.env] := by rfl)
    (h1 : starEach [a, .List [] lp, .Dict [] [] dp] X.env = (false, eval a X.env) :: starEach [.List [] lp, .Dict [] [] dp] X.env := by rfl) (h2 : starEach [.List [] lp, .Dict [] [] dp] X.env = (false, eval (.List [] lp) X.env) :: starEach [.Dict [] [] dp] X.env := by rfl) (h3 : starEach [.Dict [] [] dp] X.env = (false, eval (.Dict [] [] dp) X.env) :: starEach [] X.env := by rfl) :
    PS X (.Assign [.Tuple tgs kt pt] (.Tuple [a, .List [] lp, .Dict [] [] dp] k2 pt2) pos) (tS K (sPar3 i j l fa)) := by
  subst hK
  refine ps_wk (ps_asg (pe_tup (pa_cons ha (pa_cons (pe_lst pa_nil) (pa_cons pe_dnewK pa_nil h3) h2) h1)) (pg_tup hc hg hn hst) hs hw h0) fun D σ H h => ?_
  obtain ⟨H0, env, out, s0, he, hf, q⟩ := h
  obtain ⟨v, g1, hf⟩ := Option.bind_eq_some_iff.mp hf
  obtain ⟨d, g2, hf⟩ := Option.bind_eq_some_iff.mp hf
  split at hf
  · cases hf
    refine ⟨H0, env, v, s0, he, g1, fun u H1 s1 hu => ⟨Nat.zero_le _, fun b hb m hm => ⟨line1000 (by simp), fun t ht => ?_⟩⟩⟩
    have sb : Same H1 (upd H1 b (.lst [])) := same_new hb
    have sm : Same (upd H1 b (.lst [])) (upd (upd H1 b (.lst [])) m (.dK [])) := same_new hm
    have s2 := sb.trans sm
    have st : Same (upd (upd H1 b (.lst [])) m (.dK [])) (upd (upd (upd H1 b (.lst [])) m (.dK [])) t (.tup [u, .ref b, .ref m])) := same_new ht
    have s3 := s2.trans st
    have hb0 : H0 b = none := s0.free (s1.free hb)
    have hm1 : H1 m = none := sb.free hm
    have hm0 : H0 m = none := s0.free (s1.free hm1)
    have hmb : m ≠ b := fun z => by rw [z, upd_same] at hm; cases hm
    have e1 := he.same (s1.trans s3)
    have far : ∀ {c : Addr}, H1 c = none → ∀ j y, env[j]? = some y → isLst y = true → σ[j]? ≠ some (some (V.ref c)) := fun {c} hc j y e ly z => by
      obtain ⟨v', e2, r⟩ := he.at_ j y e (isLst_un ly)
      rw [e2] at z
      cases z
      obtain ⟨a', vs', e3, e4⟩ := lst_at r ly
      cases e3
      rw [s1 _ _ e4] at hc
      cases hc
    have far2 : ∀ {c : Addr} {w : V} {dd : Vl} {j0 : Nat}, H1 c = none → isLst dd = false → ∀ j y, (env.set j0 dd)[j]? = some y → isLst y = true → (σ.set j0 (some w))[j]? ≠ some (some (V.ref c)) := fun {c w dd j0} hc hdd j y e ly z => by
      by_cases hj : j0 = j
      · subst hj
        have hi : j0 < env.length := by
          have := (List.getElem?_eq_some_iff.mp e).1
          rwa [List.length_set] at this
        rw [List.getElem?_set_self hi] at e
        cases e
        rw [hdd] at ly
        cases ly
      · rw [List.getElem?_set_ne hj] at e z
        exact far hc j y e ly z
    have atb : (upd (upd (upd H1 b (.lst [])) m (.dK [])) t (.tup [u, .ref b, .ref m])) b = some (.lst []) := st _ _ (sm _ _ upd_same)
    have atm : (upd (upd (upd H1 b (.lst [])) m (.dK [])) t (.tup [u, .ref b, .ref m])) m = some (.dK []) := st _ _ upd_same
    have hu2 : Rep X.K (upd (upd (upd H1 b (.lst [])) m (.dK [])) t (.tup [u, .ref b, .ref m])) u d := Rep.mono (same_tup s3) d u (hu.dat g2)
    have e2 := e1.setD (i := i) hu2
    have e3 := e2.set (i := j) (v := .ref b) (x := .o []) ⟨b, [], rfl, hb0, atb, .nil⟩ rfl (fun _ j y e ly _ => far2 hb rfl j y e ly) (fun _ j y e oy _ => far2 hb rfl j y e (isOwn_lst oy))
    have far3 : ∀ j0 y, ((env.set i (.d d)).set j (.o []))[j0]? = some y → isLst y = true → ((σ.set i (some u)).set j (some (.ref b)))[j0]? ≠ some (some (V.ref m)) := fun j0 y e ly z => by
      by_cases hj : j = j0
      · subst hj
        have hi : j < (env.set i (.d d)).length := by
          have := (List.getElem?_eq_some_iff.mp e).1
          rwa [List.length_set] at this
        rw [List.getElem?_set_self (by rw [e2.len]; exact hi)] at z
        cases z
        exact hmb rfl
      · rw [List.getElem?_set_ne hj] at e z
        exact far2 hm1 rfl j0 y e ly z
    refine ⟨t, [u, .ref b, .ref m], rfl, .of upd_same, rfl, ⟨_, _, rfl, ⟨_, _, rfl, ⟨_, _, rfl, ⟨rfl, ?_⟩⟩⟩⟩⟩
    exact q _ _ (s0.trans (s1.trans s3)) (same_tup (s1.trans s3)) (e3.set (x := .k []) ⟨m, [], rfl, hm0, atm, .nil⟩ rfl (fun _ j y e ly _ => far3 j y e ly) (fun _ j y e oy _ => far3 j y e (isOwn_lst oy)))
  · cases hf
/-- name[k] = True -/
def sPutT (i : Nat) (fi : List Vl → Option Vl) : List Vl → Option Out := fun env => (fi env).bind fun b => (datOf b).bind fun d => (key1 d).bind fun k => (kOf i env).bind fun kvs => if kvs.length ≤ 1000 then some (.nx (env.set i (.k (putO kvs k none)))) else none
theorem s_putT {tpos bp : Pos} {kb : Nat} {bb : Bool} (hu : X.A.units + 100 < cLine) (hb : PE X b (tD K fb)) (hN : X.N[i]? = some x := by rfl) (hv : Vis X.env.scope x := by first | exact Or.inl rfl | exact Or.inr (Or.inl rfl) | exact Or.inr (Or.inr rfl))
    (hd : (x == ("__debug__" : PySem.Str)) = false := by decide) (hcd : (x == ("__classdict__" : PySem.Str)) = false := by decide) (hs : swapsWith (.Constant (.bool bb) kb bp) (some (.Subscript (.Name x p) b tpos)) pos.line X.env = pure false := by rfl) :
    PS X (.Assign [.Subscript (.Name x p) b tpos] (.Constant (.bool bb) kb bp) pos) (tS K (sPutT i fb)) := by
  refine ps_wk (ps_dput (by omega) (pe_var hN hv hd hcd) hb pe_bl hs) fun D σ H h => ?_
  obtain ⟨H0, env, out, s0, he, hf, q⟩ := h
  obtain ⟨bv, h3, hf⟩ := Option.bind_eq_some_iff.mp hf
  obtain ⟨d, h4, hf⟩ := Option.bind_eq_some_iff.mp hf
  obtain ⟨k, h5, hf⟩ := Option.bind_eq_some_iff.mp hf
  obtain ⟨kvs, h6, hf⟩ := Option.bind_eq_some_iff.mp hf
  split at hf
  · rename_i hl
    cases hf
    obtain ⟨w2, e1, a', vs, rfl, hn, hq, hm⟩ := he.at_ i _ (kOf_at h6) (by intro z; cases z)
    refine ⟨_, e1, H0, env, bv, s0, he, h3, fun u H2 s2 hu => ?_⟩
    have ek := (hu.dat h4).key h5
    subst ek
    have hq2 := s2 _ _ hq
    have hm2 := hm.mono (same_tup s2)
    refine ⟨a', _, rfl, DPut.k hq2 (by rw [hm.length, sizeLine_eq]; omega), ?_⟩
    exact q σ _ (same_upd0 (s0.trans s2) hn) ((same_tup s2).trans (tup_updK hq2)) ((he.same s2).writeK (kOf_at h6) e1 hn hq2 (hm2.put fun d' e => by cases e))
  · cases hf
end
end K98

/-! ## ML4 -/
/-! A tail of plain statements in a block that draws; three names at once, one of them a cell. -/
namespace K98
open PySem PySem.Spec PyProof.Rows L2
def dropL1 (x : Vl) : Vl := if noL x = true then x else .un
theorem dropL_noL (e : List Vl) : (e.map dropL1).all noL = true := by
  rw [List.all_eq_true]
  intro x hx
  obtain ⟨y, _, rfl⟩ := List.mem_map.mp hx
  unfold dropL1
  split
  · assumption
  · rfl
theorem EnvOk.dropL {K : PySem.W.Frag} {H0 H : Hp} {σ : L2.St} {env : List Vl} (h : EnvOk K H0 H σ env) : EnvOk K H0 H σ (env.map dropL1) := by
  have back : ∀ {j : Nat} {y : Vl}, (env.map dropL1)[j]? = some y → y ≠ .un → env[j]? = some y := fun {j y} e n => by
    rw [List.getElem?_map] at e
    obtain ⟨z, e1, e2⟩ := Option.map_eq_some_iff.mp e
    unfold dropL1 at e2
    split at e2
    · rw [e1, e2]
    · exact absurd e2.symm n
  refine ⟨by rw [List.length_map]; exact h.len, fun i x e n => h.at_ i x (back e n) n, fun i j x y hij ex ey ox ly => h.sep i j x y hij (back ex (isLst_un (isOwn_lst ox))) (back ey (isLst_un ly)) ox ly, fun i x e => ?_⟩
  by_cases hx : x = .un
  · subst hx; rfl
  · exact h.nop i x (back e hx)
def lftT (f : List Vl → Option Out) : RB := fun env hd => (f env).bind fun o => match o with
  | .nx e => some (.nx (e.map dropL1) hd)
  | .rt (.d d) => some (.rt d hd)
  | _ => none
section
variable {K : PySem.W.Frag} {X : Cx} {ss : List Stmt} {p : Addr}
theorem bs_D {f : List Vl → Option Out} (h : PSs X ss (tS K f)) : PSs X ss (tB K p (lftT f)) := pss_wk h fun D σ H hq => by
  obtain ⟨H0, env, hd, out, st, hf, q⟩ := hq
  obtain ⟨o, h1, hf⟩ := Option.bind_eq_some_iff.mp hf
  refine ⟨baseH H0 p hd, env, o, st.sH, st.re, h1, ?_⟩
  cases o with
  | nx e =>
    cases hf
    exact fun σ' H' s' t' he => q σ' H' (St0.of st.free s' he.dropL (dropL_noL _)) t'
  | rt r =>
    cases r with
    | d d =>
      cases hf
      exact fun v H' s' hv => q v H' (st.sHs.trans s') (s' _ _ base_at) hv
    | o _ => cases hf
    | p _ _ => cases hf
    | i _ _ => cases hf
/-- a block that holds for each hand -/
theorem pss_ex {t : Addr → TS} (h : ∀ p, PSs X ss (t p)) : PSs X ss (fun D σ H => ∃ p, t p D σ H) := ⟨fun pins s σ H D I hq => by
  obtain ⟨p, hq⟩ := hq
  exact (h p).run pins s σ H D I hq⟩
end
end K98

/-! ## LawDefs -/
namespace K98
open PySem PySem.Spec PyProof.Rows L2

/-! ### _law_take -/
def N_law_take : List PySem.Str := ["_law_hand_here", "_law_many", "_law_digit", "_law_turn", "_law_mixed", "_law_other"]
theorem sc_law_take : FnScope N_law_take ["_law_hand_here", "_law_many"] (defScope s_law_take) := ⟨rfl, rfl, rfl, by decide +kernel, rfl, by decide +kernel, by decide +kernel⟩
def b_law_take (p : Addr) : RB := (bSeq (bIf (mT2 (gC fun i j => decide (j < i)) (mHd p 0 0) (mD (eD (.int 0)))) (bSeq (bAsg 2 (m2 gMod (mHd p 0 0) (mD (eVar 1)))) (bSeq (bPut p 0 0 (m2 gDiv (mHd p 0 0) (mD (eVar 1)))) (lft (sRet (eVar 2))))) bNil) (bSeq (bPut p 0 2 (m2 gAdd (mHd p 0 2) (mD (eD (.int 1))))) (bSeq (bAsg 3 (mHd p 0 2)) (bSeq (bAsg 4 (m2 gMod (m2 gMul (mHd p 0 1) (mD (eAdd (eAdd (eD (.int 48271)) (eMul (eMul (eD (.int 2)) (eVar 3)) (eVar 3))) (eMul (eD (.int 65537)) (eVar 3))))) (mD (eD (.int 2305843009213693921))))) (bSeq (lft (sAsg 5 (eAdd (eAdd (eMod (eVar 4) (eD (.int 1000003))) (eMul (eVar 3) (eD (.int 99991)))) (eD (.int 11))))) (bSeq (lft (sAsg 4 (eMod (eMul (eVar 4) (eVar 5)) (eD (.int 2305843009213693907))))) (lft (sRet (eMod (eAdd (eDiv (eVar 4) (eD (.int 97))) (eDiv (eVar 4) (eD (.int 1000033)))) (eVar 1))))))))))
def F_law_take : RF := fnB 1 4 b_law_take
theorem ok_law_take {P : Program} {w : World} {K : PySem.W.Frag} {mg : PySem.Str → Option Value} {base : Heap} {C : Addr} (T : Top K mg) (B : Bun P w K mg base C) : FnB P w K mg base 1 "_law_take" 1 F_law_take := by
  obtain ⟨ft, fd, FD, hm⟩ := T.law_take
  refine ⟨ft, fd, ["_law_hand_here", "_law_many"], def_okB (k := 0) (f := b_law_take) FD sc_law_take rfl rfl fun p cdv A outer s H E hr => ?_, hm, FD.kp, FD.bindsN fun _ _ _ _ _ _ us hl => match us, hl with | [_, _], _ => rfl⟩
  have hu : (A.deeper (envOfC "_law_take" (defScope s_law_take) s.heap.objs.size ft cdv)).units + 100 < cLine := by have := hr.un; omega
  exact (bs_cons (b_if (mt_gt (m_hd (i := 0) (k := 0) rfl) (m_D d_int)) (bs_cons (b_asg (i := 2) sc_law_take.nd (m_mod (m_hd (i := 0) (k := 0) rfl) (m_D (d_var 1))))
    (bs_cons (b_put (i := 0) (k := 0) (m_div (m_hd (i := 0) (k := 0) rfl) (m_D (d_var 1))))
    (bs_one (b_D (s_ret (d_var 2)))))) bs_nil)
    (bs_cons (b_put (i := 0) (k := 2) (m_add (m_hd (i := 0) (k := 2) rfl) (m_D d_int)))
    (bs_cons (b_asg (i := 3) sc_law_take.nd (m_hd (i := 0) (k := 2) rfl))
    (bs_cons (b_asg (i := 4) sc_law_take.nd (m_mod (m_mul (m_hd (i := 0) (k := 1) rfl) (m_D (d_add (d_add d_int (d_mul (d_mul d_int (d_var 3)) (d_var 3))) (d_mul d_int (d_var 3))))) (m_D d_int)))
    (bs_cons (b_D (s_set (i := 5) sc_law_take.nd (d_add (d_add (d_mod (d_var 4) d_int) (d_mul (d_var 3) d_int)) d_int)))
    (bs_cons (b_D (s_set (i := 4) sc_law_take.nd (d_mod (d_mul (d_var 4) (d_var 5)) d_int)))
    (bs_one (b_D (s_ret (d_mod (d_add (d_div (d_var 4) d_int) (d_div (d_var 4) d_int)) (d_var 1)))))))))))
/-! ### _law_pick -/
def N_law_pick : List PySem.Str := ["_law_hand_here", "_law_some"]
theorem sc_law_pick : FnScope N_law_pick ["_law_hand_here", "_law_some"] (defScope s_law_pick) := ⟨rfl, rfl, rfl, by decide +kernel, rfl, by decide +kernel, by decide +kernel⟩
def b_law_pick (p : Addr) : RB := (bRet (mIx 1 (mCall p 0 1 F_law_take (xD (aCons (eB1 gLen (aCons (eVar 1) aNil)) aNil)))))
def F_law_pick : RF := fnB 1 0 b_law_pick
theorem ok_law_pick {P : Program} {w : World} {K : PySem.W.Frag} {mg : PySem.Str → Option Value} {base : Heap} {C : Addr} (T : Top K mg) (B : Bun P w K mg base C) (c_law_take : FnB P w K mg base 1 "_law_take" 1 F_law_take) : FnB P w K mg base 2 "_law_pick" 1 F_law_pick := by
  obtain ⟨ft, fd, FD, hm⟩ := T.law_pick
  refine ⟨ft, fd, ["_law_hand_here", "_law_some"], def_okB (k := 1) (f := b_law_pick) FD sc_law_pick rfl rfl fun p cdv A outer s H E hr => ?_, hm, FD.kp, FD.bindsN fun _ _ _ _ _ _ us hl => match us, hl with | [_, _], _ => rfl⟩
  have hu : (A.deeper (envOfC "_law_pick" (defScope s_law_pick) s.heap.objs.size ft cdv)).units + 100 < cLine := by have := hr.un; omega
  exact (bs_one (b_ret (m_ix (i := 1) rfl (m_call (i := 0) c_law_take rfl hr (by decide) rfl (mx_D (a'_cons (d_len rfl rfl T.b_len (a_cons (d_var 1) a_nil)) a'_nil))))))
/-! ### _law_right_manner -/
def N_law_right_manner : List PySem.Str := ["_law_hand_here", "_law_most", "_law_hands", "_law_moves", "_law_way", "_law_some"]
theorem sc_law_right_manner : FnScope N_law_right_manner ["_law_hand_here", "_law_most"] (defScope s_law_right_manner) := ⟨rfl, rfl, rfl, by decide +kernel, rfl, by decide +kernel, by decide +kernel⟩
def b_law_right_manner (p : Addr) : RB := (bSeq (bAsg 2 (mCall p 0 1 F_law_pick (xL (mCons (mD (eD (.int 2))) (mCons (mD (eD (.int 2))) (mCons (mD (eD (.int 3))) (mCons (mD (eD (.int 2))) (mCons (mD (eD (.int 3))) (mCons (mD (eD (.int 2))) (mCons (mD (eD (.int 3))) (mCons (m2 gAdd (mD (eD (.int 1))) (mCall p 0 1 F_law_take (xD (aCons (eVar 1) aNil)))) mNil))))))))))) (bSeq (bAsg 3 (m2 gAdd (mD (eD (.int 2))) (mCall p 0 1 F_law_take (xD (aCons (eD (.int 3)) aNil))))) (bSeq (bAsg 4 (mCall p 0 1 F_law_take (xD (aCons (eD (.int 8)) aNil)))) (bSeq (lft (sIf (cLt (eVar 4) (eD (.int 2))) (sRet (eIx (eLst (aCons (eTup (aCons (eD (.str "twice")) (aCons (eVar 2) (aCons (eD (.int 0)) aNil)))) (aCons (eTup (aCons (eD (.str "once")) (aCons (eD (.int 2)) aNil))) aNil))) (eVar 4))) sNil)) (bSeq (bIf (mTD (cEq (eVar 4) (eD (.int 2)))) (bSeq (lft (sAsg 5 (eLst (aCons (eTup (aCons (eD (.str "twice")) (aCons (eD (.int 2)) (aCons (eD (.int 2)) aNil)))) (aCons (eTup (aCons (eD (.str "handed")) (aCons (eD (.int 2)) (aCons (eD (.int 3)) (aCons (eVar 3) aNil))))) (aCons (eTup (aCons (eD (.str "signs")) (aCons (eD (.int 2)) (aCons (eD (.int 0)) (aCons (eD (.int 0)) (aCons (eD (.int 1)) aNil)))))) (aCons (eTup (aCons (eD (.str "signs")) (aCons (eD (.int 2)) (aCons (eD (.int 0)) (aCons (eD (.int 1)) (aCons (eVar 3) aNil)))))) aNil))))))) (bRet (mCall p 0 1 F_law_pick (xD (aCons (eVar 5) aNil))))) bNil) (bSeq (lft (sIf (cEq (eVar 4) (eD (.int 3))) (sRet (eTup (aCons (eD (.str "handed")) (aCons (eVar 2) (aCons (eD (.int 0)) (aCons (eVar 3) aNil)))))) sNil)) (lft (sRet (eTup (aCons (eD (.str "signs")) (aCons (eVar 2) (aCons (eD (.int 1)) (aCons (eD (.int 1)) (aCons (eVar 3) aNil))))))))))))))
def F_law_right_manner : RF := fnB 1 4 b_law_right_manner
theorem ok_law_right_manner {P : Program} {w : World} {K : PySem.W.Frag} {mg : PySem.Str → Option Value} {base : Heap} {C : Addr} (T : Top K mg) (B : Bun P w K mg base C) (c_law_pick : FnB P w K mg base 2 "_law_pick" 1 F_law_pick) (c_law_take : FnB P w K mg base 1 "_law_take" 1 F_law_take) : FnB P w K mg base 3 "_law_right_manner" 1 F_law_right_manner := by
  obtain ⟨ft, fd, FD, hm⟩ := T.law_right_manner
  refine ⟨ft, fd, ["_law_hand_here", "_law_most"], def_okB (k := 2) (f := b_law_right_manner) FD sc_law_right_manner rfl rfl fun p cdv A outer s H E hr => ?_, hm, FD.kp, FD.bindsN fun _ _ _ _ _ _ us hl => match us, hl with | [_, _], _ => rfl⟩
  have hu : (A.deeper (envOfC "_law_right_manner" (defScope s_law_right_manner) s.heap.objs.size ft cdv)).units + 100 < cLine := by have := hr.un; omega
  exact (bs_cons (b_asg (i := 2) sc_law_right_manner.nd (m_call (i := 0) c_law_pick rfl hr (by decide) rfl (mx_L (ma_cons (m_D d_int) (ma_cons (m_D d_int) (ma_cons (m_D d_int) (ma_cons (m_D d_int) (ma_cons (m_D d_int) (ma_cons (m_D d_int) (ma_cons (m_D d_int) (ma_cons (m_add (m_D d_int) (m_call (i := 0) c_law_take rfl hr (by decide) rfl (mx_D (a'_cons (d_var 1) a'_nil)))) ma_nil)))))))))))
    (bs_cons (b_asg (i := 3) sc_law_right_manner.nd (m_add (m_D d_int) (m_call (i := 0) c_law_take rfl hr (by decide) rfl (mx_D (a'_cons d_int a'_nil)))))
    (bs_cons (b_asg (i := 4) sc_law_right_manner.nd (m_call (i := 0) c_law_take rfl hr (by decide) rfl (mx_D (a'_cons d_int a'_nil))))
    (bs_cons (b_D (s_if (ct_lt (d_var 4) d_int) (ss_one (s_ret (d_ix rfl (d_lst (a_cons (d_tup (a_cons d_str (a_cons (d_var 2) (a_cons d_int a_nil)))) (a_cons (d_tup (a_cons d_str (a_cons d_int a_nil))) a_nil))) (d_var 4)))) ss_nil))
    (bs_cons (b_if (mt_D (ct_eq rfl hu (d_var 4) d_int)) (bs_cons (b_D (s_set (i := 5) sc_law_right_manner.nd (d_lst (a_cons (d_tup (a_cons d_str (a_cons d_int (a_cons d_int a_nil)))) (a_cons (d_tup (a_cons d_str (a_cons d_int (a_cons d_int (a_cons (d_var 3) a_nil))))) (a_cons (d_tup (a_cons d_str (a_cons d_int (a_cons d_int (a_cons d_int (a_cons d_int a_nil)))))) (a_cons (d_tup (a_cons d_str (a_cons d_int (a_cons d_int (a_cons d_int (a_cons (d_var 3) a_nil)))))) a_nil)))))))
    (bs_one (b_ret (m_call (i := 0) c_law_pick rfl hr (by decide) rfl (mx_D (a'_cons (d_var 5) a'_nil)))))) bs_nil)
    (bs_cons (b_D (s_if (ct_eq rfl hu (d_var 4) d_int) (ss_one (s_ret (d_tup (a_cons d_str (a_cons (d_var 2) (a_cons d_int (a_cons (d_var 3) a_nil))))))) ss_nil))
    (bs_one (b_D (s_ret (d_tup (a_cons d_str (a_cons (d_var 2) (a_cons d_int (a_cons d_int (a_cons (d_var 3) a_nil)))))))))))))))
/-! ### _law_woven -/
def N_law_woven : List PySem.Str := ["_law_hand_here", "_law_manner", "_law_jobs", "_law_most", "_law_room", "_law_weaving", "_law_stopped", "_law_turn", "_law_some", "_law_own", "_law_k"]
theorem sc_law_woven : FnScope N_law_woven ["_law_hand_here", "_law_manner", "_law_jobs", "_law_most"] (defScope s_law_woven) := ⟨rfl, rfl, rfl, by decide +kernel, rfl, by decide +kernel, by decide +kernel⟩
def b_law_woven (p : Addr) : RB := (bSeq (lft (sPar3 4 5 6 (eCall 2 F_begun (aCons (eVar 1) (aCons (eVar 2) aNil))))) (bSeq (bFor 7 (xD (aCons (eVar 3) aNil)) (bSeq (lft (sAsg 8 (eLc (sLst (eCall 3 F_may_step (aCons (eVar 1) (aCons (eVar 2) (aCons (eVar 4) aNil))))) (gN 9) (cNotK 6 (eVar 9)) (eVar 9) [9]))) (bIf (mTD (cAnd (cNe (eVar 8) (eLst aNil)) (cLt (eB1 gLen (aCons (eVar 5) aNil)) (eVar 3)))) (bSeq (bAsg 9 (mCall p 0 1 F_law_pick (xD (aCons (eVar 8) aNil)))) (bSeq (bIf (mT2 gEq (mCall p 0 1 F_law_take (xD (aCons (eD (.int 40)) aNil))) (mD (eD (.int 0)))) (lft (sPutT 6 (eVar 9))) bNil) (bFor 10 (xM (mCall p 0 1 F_law_pick (xD (aCons (eLst (aCons (eD (.int 1)) (aCons (eD (.int 1)) (aCons (eD (.int 2)) (aCons (eD (.int 3)) (aCons (eD (.int 5)) (aCons (eD (.int 9)) (aCons (eD (.int 30)) aNil)))))))) aNil)))) (lft (sIf (cInL (eVar 9) (eCall 3 F_may_step (aCons (eVar 1) (aCons (eVar 2) (aCons (eVar 4) aNil))))) (sSeq (sAsg 4 (eCall 4 F_stepped (aCons (eVar 1) (aCons (eVar 2) (aCons (eVar 4) (aCons (eVar 9) aNil)))))) (sApp 5 (aCons (eVar 9) aNil))) sNil))))) bNil))) (lft (sRet (eTup (aCons (eB1 gTupL (aCons (eVar 5) aNil)) (aCons (eVar 4) aNil)))))))
def F_law_woven : RF := fnB 3 7 b_law_woven
theorem ok_law_woven {P : Program} {w : World} {K : PySem.W.Frag} {mg : PySem.Str → Option Value} {base : Heap} {C : Addr} (T : Top K mg) (B : Bun P w K mg base C) (c_law_pick : FnB P w K mg base 2 "_law_pick" 1 F_law_pick) (c_law_take : FnB P w K mg base 1 "_law_take" 1 F_law_take) : FnB P w K mg base 10 "_law_woven" 3 F_law_woven := by
  obtain ⟨ft, fd, FD, hm⟩ := T.law_woven
  refine ⟨ft, fd, ["_law_hand_here", "_law_manner", "_law_jobs", "_law_most"], def_okB (k := 9) (f := b_law_woven) FD sc_law_woven rfl rfl fun p cdv A outer s H E hr => ?_, hm, FD.kp, FD.bindsN fun _ _ _ _ _ _ us hl => match us, hl with | [_, _, _, _], _ => rfl⟩
  have hu : (A.deeper (envOfC "_law_woven" (defScope s_law_woven) s.heap.objs.size ft cdv)).units + 100 < cLine := by have := hr.un; omega
  exact (bs_cons (b_D (s_par3 (i := 4) (j := 5) (l := 6) rfl rfl (gs_cons (i := 4) sc_law_woven.nd (gs_cons (i := 5) sc_law_woven.nd (gs_cons (i := 6) sc_law_woven.nd gs_nil))) (d_call B.begun rfl hr (by decide) rfl (a_cons (d_var 1) (a_cons (d_var 2) a_nil)))))
    (bs_cons (b_for (i := 7) PassesOwn.never rfl rfl T.b_range (mx_D (a'_cons (d_var 3) a'_nil)) sc_law_woven.nd (bs_cons (b_D (s_setLc (i := 8) rfl sc_law_woven.nd rfl rfl (sw_true rfl rfl rfl rfl) (i_lst rfl (d_call B.may_step rfl hr (by decide) rfl (a_cons (d_var 1) (a_cons (d_var 2) (a_cons (d_var 4) a_nil))))) (blkOk_by (own := [("_law_own", 9)]) rfl) rfl (ow := false) (idx := [9]) (by decide) (fun _ _ _ _ _ => (g_name (i := 9) sc_law_woven.nd)) (fun _ _ _ _ _ => (ts_one (ct_notK (i := 6) hu (d_var 9)))) (fun _ _ _ _ _ => (d_var 9))))
    (bs_one (b_if (mt_D (PW.pt (cw_and (ct_ne rfl hu (d_var 8) (d_lst a_nil)) (cw_and1 (ct_lt (d_len rfl rfl T.b_len (a_cons (d_var 5) a_nil)) (d_var 3)))))) (bs_cons (b_asg (i := 9) sc_law_woven.nd (m_call (i := 0) c_law_pick rfl hr (by decide) rfl (mx_D (a'_cons (d_var 8) a'_nil))))
    (bs_cons (b_if (mt_eq rfl hu (m_call (i := 0) c_law_take rfl hr (by decide) rfl (mx_D (a'_cons d_int a'_nil))) (m_D d_int)) (bs_one (b_D (s_putT (i := 6) hu (d_var 9)))) bs_nil)
    (bs_one (b_for (i := 10) PassesOwn.never rfl rfl T.b_range (mx_M (m_call (i := 0) c_law_pick rfl hr (by decide) rfl (mx_D (a'_cons (d_lst (a_cons d_int (a_cons d_int (a_cons d_int (a_cons d_int (a_cons d_int (a_cons d_int (a_cons d_int a_nil)))))))) a'_nil)))) sc_law_woven.nd (bs_one (b_D (s_if (ct_inL rfl hu (d_var 9) (d_call B.may_step rfl hr (by decide) rfl (a_cons (d_var 1) (a_cons (d_var 2) (a_cons (d_var 4) a_nil))))) (ss_cons (s_set (i := 4) sc_law_woven.nd (d_call B.stepped rfl hr (by decide) rfl (a_cons (d_var 1) (a_cons (d_var 2) (a_cons (d_var 4) (a_cons (d_var 9) a_nil))))))
    (ss_one (s_app (i := 5) rfl (a_cons (d_var 9) a_nil)))) ss_nil))))))) bs_nil))))
    (bs_one (b_D (s_ret (d_tup (a_cons (d_tupL rfl rfl T.b_tuple (a_cons (d_var 5) a_nil)) (a_cons (d_var 4) a_nil))))))))
/-! ### law -/
def N_law : List PySem.Str := ["_law_script", "_law_n", "_law_hand_here", "_law_manner", "_law_jobs", "_law_own", "_law_items", "_law_weaving", "_law_room", "_law_rows", "_law_looks", "_law_deed", "_law_begin", "_law_end", "_law_told", "_law_totals", "_law_answer", "_law_k", "_law_other", "_law_row", "_law_t"]
theorem sc_law : FnScope N_law ["_law_script"] (defScope s_law) := ⟨rfl, rfl, rfl, by decide +kernel, rfl, by decide +kernel, by decide +kernel⟩
def b_law_tail (C : Addr) : List Vl → Option Out := (sSeq (sAsg 9 (eCall 3 F_story (aCons (eVar 3) (aCons (eVar 4) (aCons (eVar 7) aNil))))) (sSeq (sAsg 10 (eLc (sTup (eVar 9)) (gN 19) (cAnd (cEq (eIx (eVar 19) (eD (.int 1))) (eTup (aCons (eD (.str "look")) aNil))) (cNotN (eIx (eVar 19) (eD (.int 3))) (eD .non))) (eVar 19) [19])) (sSeq (sForV 10 (gP [5, 11, 12, 13, 14]) (sSeq (sAsg 15 (eLc (sRng2 (aCons (eVar 12) (aCons (eAdd (eVar 13) (eD (.int 1))) aNil))) (gN 20) cYes (eCall 2 F_law_total (aCons (eVar 9) (aCons (eVar 20) aNil))) [20])) (sSeq (sIf (cNotInL (eB1 gSum (aCons (eVar 14) aNil)) (eVar 15)) sNo sNil) (sIf (cAny (sLst (eVar 10)) (gN 18) (cAnd (cLe (eIx (eVar 18) (eD (.int 3))) (eVar 12)) (cGt (eB1 gSum (aCons (eIx (eVar 18) (eD (.int 4))) aNil)) (eB1 gSum (aCons (eVar 14) aNil)))) [18]) sNo sNil)))) (sFor (sRng1 (aCons (eIx (eVar 3) (eD (.int 1))) aNil)) (gN 5) (sSeq (sAsg 16 (eCall 3 (F_answer_ofC C) (aCons (eVar 5) (aCons (eIx (eVar 4) (eVar 5)) (aCons (eIx (eIx (eIx (eVar 8) (eD (.int 1))) (eVar 5)) (eD (.int 0))) aNil))))) (sSeq (sIf (cAnd (cNotN (eVar 16) (eD .non)) (cNe (eVar 16) (eB1 gTupL (aCons (eLc (sLst (eVar 10)) (gN 19) (cEq (eIx (eVar 19) (eD (.int 0))) (eVar 5)) (eB1 gSum (aCons (eIx (eVar 19) (eD (.int 4))) aNil)) [19]) aNil)))) sNo sNil) (sIf (cXor (cIsN (eVar 16) (eD .non)) (cInL (eVar 5) (eCall 3 F_may_step (aCons (eVar 3) (aCons (eVar 4) (aCons (eVar 8) aNil)))))) sNo sNil)))))))
def b_law (C p : Addr) : RB := (bSeq (bAsg 3 (mCall p 2 1 F_law_right_manner (xD (aCons (eD (.int 5)) aNil)))) (bSeq (lft (sAsg 4 (eLst aNil))) (bSeq (bFor 5 (xD (aCons (eIx (eVar 3) (eD (.int 1))) aNil)) (bSeq (bLc 6 17 [17] (xM (mCall p 2 1 F_law_take (xD (aCons (eD (.int 7)) aNil)))) (mCall p 2 1 F_law_pick (xD (aCons (eLst (aCons (eD .non) (aCons (eD .non) (aCons (eD (.int 1)) (aCons (eD (.int 5)) (aCons (eD (.int 9)) (aCons (eD (.int 0)) aNil))))))) aNil)))) (lft (sApp 4 (aCons (eTup (aCons (eD (.str "sums")) (aCons (eB1 gTupL (aCons (eVar 6) aNil)) aNil))) aNil))))) (bSeq (lft (sAsg 4 (eB1 gTupL (aCons (eVar 4) aNil)))) (bSeq (bUnp [7, 8] (mCall p 2 3 F_law_woven (xD (aCons (eVar 3) (aCons (eVar 4) (aCons (eD (.int 160)) aNil)))))) (lftT (b_law_tail C)))))))
end K98

/-! ## LSpec1 -/
/-! What the draws come to. -/
namespace K98
open PySem PySem.Spec PyProof.Rows L2
section
variable {env : List Vl} {hd h1 h2 : List Int} {p : Addr} {i k : Nat} {fa fb : RM} {f g : RB}
theorem atHand_self (h : env[i]? = some (.a p)) : atHand p i env = true := by
  unfold atHand
  rw [h]
  exact decide_eq_true rfl
theorem mHd_ok {z : Int} (h : env[i]? = some (.a p)) (hk : hd[k]? = some z) : mHd p i k env hd = some (.int z, hd) := by
  unfold mHd
  rw [if_pos (atHand_self h), hk] <;> rfl
theorem mD_ok {f : List Vl → Option Vl} {d : D} (h : f env = some (.d d)) : mD f env hd = some (d, hd) := by
  unfold mD
  rw [h] <;> rfl
theorem mTD_ok {f : List Vl → Option Bool} {b : Bool} (h : f env = some b) : mTD f env hd = some (b, hd) := by
  unfold mTD
  rw [h] <;> rfl
theorem m2_ok {f : Int → Int → Option Int} {a b c : Int} (e1 : fa env hd = some (.int a, h1)) (e2 : fb env h1 = some (.int b, h2)) (h : f a b = some c) : m2 (gI f) fa fb env hd = some (.int c, h2) := by
  unfold m2
  rw [e1]
  show (fb env h1).bind _ = _
  rw [e2]
  show (gI f (.d (.int a)) (.d (.int b))).bind _ = _
  rw [gI_ok h] <;> rfl
theorem mT2_C {f : Int → Int → Bool} {a b : Int} (e1 : fa env hd = some (.int a, h1)) (e2 : fb env h1 = some (.int b, h2)) : mT2 (gC f) fa fb env hd = some (f a b, h2) := by
  unfold mT2
  rw [e1]
  show (fb env h1).bind _ = _
  rw [e2] <;> rfl
theorem mT2_eq {a b : Int} (e1 : fa env hd = some (.int a, h1)) (e2 : fb env h1 = some (.int b, h2)) : mT2 gEq fa fb env hd = some (decide (a = b), h2) := by
  unfold mT2
  rw [e1]
  show (fb env h1).bind _ = _
  rw [e2]
  have q := cEq_int (fa := fun _ => some (.d (.int a))) (fb := fun _ => some (.d (.int b))) (env := env) rfl rfl
  unfold cEq at q
  rw [t2_ok (a := .d (.int a)) (b := .d (.int b)) rfl rfl] at q
  show (gEq (.d (.int a)) (.d (.int b))).map (fun k => (k, h2)) = _
  rw [q] <;> rfl
theorem bSeq_nx {e : List Vl} {r : Option OutM} (e1 : f env hd = some (.nx e h1)) (e2 : g e h1 = r) : bSeq f g env hd = r := by unfold bSeq; rw [e1]; exact e2
theorem bSeq_rt {d : D} (e1 : f env hd = some (.rt d h1)) : bSeq f g env hd = some (.rt d h1) := by unfold bSeq; rw [e1] <;> rfl
theorem bIf_t {t : RT} {r : Option OutM} (e1 : t env hd = some (true, h1)) (e2 : f env h1 = r) : bIf t f g env hd = r := by unfold bIf; rw [e1]; exact e2
theorem bIf_f {t : RT} {r : Option OutM} (e1 : t env hd = some (false, h1)) (e2 : g env h1 = r) : bIf t f g env hd = r := by unfold bIf; rw [e1]; exact e2
theorem bAsg_ok {d : D} (e : fa env hd = some (d, h1)) : bAsg i fa env hd = some (.nx (env.set i (.d d)) h1) := by unfold bAsg; rw [e] <;> rfl
theorem bRet_ok {d : D} (e : fa env hd = some (d, h1)) : bRet fa env hd = some (.rt d h1) := by unfold bRet; rw [e] <;> rfl
theorem bPut_ok {z : Int} (h : env[i]? = some (.a p)) (e : fa env hd = some (.int z, h1)) (hk : k < h1.length) : bPut p i k fa env hd = some (.nx env (h1.set k z)) := by
  unfold bPut
  rw [if_pos (atHand_self h), e]
  show (if k < h1.length then some (OutM.nx env (h1.set k z)) else none) = _
  rw [if_pos hk]
theorem lft_nx {f : List Vl → Option Out} {e : List Vl} (h : f env = some (.nx e)) (hn : e.all noL = true) : lft f env hd = some (.nx e hd) := by
  unfold lft
  rw [h]
  show (if e.all noL = true then some (OutM.nx e hd) else none) = _
  rw [if_pos hn]
theorem lft_rt {f : List Vl → Option Out} {d : D} (h : f env = some (.rt (.d d))) : lft f env hd = some (.rt d hd) := by
  unfold lft
  rw [h] <;> rfl
theorem fnB_ok {n m : Nat} {body : Addr → RB} {as : List Vl} {d : D} (hn : as.length = n) (h : body p (.a p :: as ++ List.replicate m .un) hd = some (.rt d h1)) : fnB n m body p hd as = some (d, h1) := by
  unfold fnB
  rw [if_pos hn, h] <;> rfl
theorem mCall_ok {n : Nat} {F : RF} {fx : RMx} {vals : List Vl} {r : D × List Int} (h : env[i]? = some (.a p)) (e1 : fx env hd = some (vals, h1)) (h3 : vals.length = n ∧ (vals.map toArg).all argOk = true) (e2 : F p h1 (vals.map toArg) = some r) : mCall p i n F fx env hd = some r := by
  unfold mCall
  rw [if_pos (atHand_self h), e1]
  show (if vals.length = n ∧ (vals.map toArg).all argOk = true then _ else none) = _
  rw [if_pos h3]
  exact e2
theorem xD_ok {fs : List Vl → Option (List Vl)} {vals : List Vl} (h : fs env = some vals) (hn : vals.all noL = true) : xD fs env hd = some (vals, hd) := by
  unfold xD
  rw [h]
  show (if vals.all noL = true then some (vals, hd) else none) = _
  rw [if_pos hn]
end
theorem mulL {i j : Int} (h : -(2 ^ 64) < i ∧ i < 2 ^ 64) : (if (-(2 ^ 64) < i ∧ i < 2 ^ 64) ∨ (-(2 ^ 64) < j ∧ j < 2 ^ 64) then some (i * j) else none) = some (i * j) := if_pos (.inl h)
theorem modP {i j : Int} (h : 0 < j) : (if 0 < j then some (i % j) else none) = some (i % j) := if_pos h
theorem divP {i j : Int} (h : 0 < j ∧ j < 1073741824) : (if 0 < j ∧ j < 1073741824 then some (i / j) else none) = some (i / j) := if_pos h
section
variable {fa fb : List Vl → Option Vl} {env : List Vl} {i j : Int}
theorem eMulL (h1 : fa env = some (.d (.int i))) (h2 : fb env = some (.d (.int j))) (h : -(2 ^ 64) < i ∧ i < 2 ^ 64) : eMul fa fb env = some (.d (.int (i * j))) := by
  unfold eMul
  rw [e2_ok h1 h2]
  exact gI_ok (mulL h)
theorem eAddI (h1 : fa env = some (.d (.int i))) (h2 : fb env = some (.d (.int j))) : eAdd fa fb env = some (.d (.int (i + j))) := by
  unfold eAdd
  rw [e2_ok h1 h2]
  exact gI_ok rfl
theorem eModI (h1 : fa env = some (.d (.int i))) (h2 : fb env = some (.d (.int j))) (h : 0 < j) : eMod fa fb env = some (.d (.int (i % j))) := by
  unfold eMod
  rw [e2_ok h1 h2]
  exact gI_ok (modP h)
theorem eDivI (h1 : fa env = some (.d (.int i))) (h2 : fb env = some (.d (.int j))) (h : 0 < j ∧ j < 1073741824) : eDiv fa fb env = some (.d (.int (i / j))) := by
  unfold eDiv
  rw [e2_ok h1 h2]
  exact gI_ok (divP h)
end
/-- the hand as it stands behind at most B draws without digits -/
def HdOk (B : Int) (hd : List Int) : Prop := ∃ x y c, hd = [x, y, c] ∧ 0 ≤ x ∧ 0 ≤ y ∧ y < 2 ^ 62 ∧ 0 ≤ c ∧ c ≤ B
theorem HdOk.mono {B B' : Int} {hd : List Int} (h : HdOk B hd) (hb : B ≤ B') : HdOk B' hd := by
  obtain ⟨x, y, c, e, h1, h2, h3, h4, h5⟩ := h
  exact ⟨x, y, c, e, h1, h2, h3, h4, Int.le_trans h5 hb⟩
theorem f_take {B : Int} {hd : List Int} {n : Int} (p : Addr) (h : HdOk B hd) (hB : B < 1000000) (hn : 0 < n) (hn2 : n < 1073741824) : ∃ d hd', F_law_take p hd [.d (.int n)] = some (.int d, hd') ∧ 0 ≤ d ∧ d < n ∧ HdOk (B + 1) hd' := by
  obtain ⟨x, y, c, rfl, hx, hy, hy2, hc, hc2⟩ := h
  by_cases h0 : 0 < x
  · refine ⟨x % n, [x / n, y, c], fnB_ok rfl ?_, Int.emod_nonneg x (by omega), Int.emod_lt_of_pos x hn, x / n, y, c, rfl, Int.ediv_nonneg hx (by omega), hy, hy2, hc, by omega⟩
    have c1 := mT2_C (f := fun i j => decide (j < i)) (fa := mHd p 0 0) (fb := mD (eD (.int 0))) (env := [.a p, .d (.int n), .un, .un, .un, .un]) (hd := [x, y, c]) (a := x) (b := 0) (h1 := [x, y, c]) (h2 := [x, y, c]) (mHd_ok rfl rfl) (mD_ok rfl)
    rw [decide_eq_true h0] at c1
    refine bSeq_rt (bIf_t c1 (bSeq_nx (bAsg_ok (m2_ok (mHd_ok rfl rfl) (mD_ok rfl) (modP hn))) (bSeq_nx (bPut_ok rfl (m2_ok (mHd_ok rfl rfl) (mD_ok rfl) (divP ⟨hn, hn2⟩)) (by show 0 < 3; decide)) (lft_rt (sRet_d rfl)))))
  · have C1 : (0 : Int) < 2305843009213693921 := by decide
    have C2 : (0 : Int) < 2305843009213693907 := by decide
    have two : -(2 ^ 64) < (2 : Int) ∧ (2 : Int) < 2 ^ 64 := by omega
    have t65 : -(2 ^ 64) < (65537 : Int) ∧ (65537 : Int) < 2 ^ 64 := by omega
    have tt : -(2 ^ 64) < 2 * (c + 1) ∧ 2 * (c + 1) < 2 ^ 64 := by omega
    have t1 : -(2 ^ 64) < c + 1 ∧ c + 1 < 2 ^ 64 := by omega
    have yy : -(2 ^ 64) < y ∧ y < 2 ^ 64 := by omega
    let m1 := y * (48271 + 2 * (c + 1) * (c + 1) + 65537 * (c + 1)) % 2305843009213693921
    have hm1 : -(2 ^ 64) < m1 ∧ m1 < 2 ^ 64 := by
      have a1 : 0 ≤ m1 := Int.emod_nonneg _ (by decide)
      have a2 : m1 < 2305843009213693921 := Int.emod_lt_of_pos _ C1
      omega
    let ot := m1 % 1000003 + (c + 1) * 99991 + 11
    let m2v := m1 * ot % 2305843009213693907
    let d := (m2v / 97 + m2v / 1000033) % n
    refine ⟨d, [x, y, c + 1], fnB_ok rfl ?_, Int.emod_nonneg _ (by omega), Int.emod_lt_of_pos _ hn, x, y, c + 1, rfl, hx, hy, hy2, by omega, by omega⟩
    have c1 := mT2_C (f := fun i j => decide (j < i)) (fa := mHd p 0 0) (fb := mD (eD (.int 0))) (env := [.a p, .d (.int n), .un, .un, .un, .un]) (hd := [x, y, c]) (a := x) (b := 0) (h1 := [x, y, c]) (h2 := [x, y, c]) (mHd_ok rfl rfl) (mD_ok rfl)
    rw [decide_eq_false h0] at c1
    refine bSeq_nx (bIf_f c1 rfl) (bSeq_nx (bPut_ok rfl (m2_ok (mHd_ok rfl rfl) (mD_ok rfl) rfl) (by show 2 < 3; decide)) (bSeq_nx (bAsg_ok (mHd_ok (z := c + 1) rfl rfl)) ?_))
    refine bSeq_nx (bAsg_ok (m2_ok (m2_ok (mHd_ok (z := y) rfl rfl) (mD_ok (d := .int (48271 + 2 * (c + 1) * (c + 1) + 65537 * (c + 1))) ?_) (mulL yy)) (mD_ok rfl) (modP C1))) ?_
    · exact eAddI (eAddI rfl (eMulL (eMulL rfl rfl two) rfl tt)) (eMulL rfl rfl t65)
    refine bSeq_nx (lft_nx (sAsg_d (x := .int ot) (eAddI (eAddI (eModI (i := m1) rfl rfl (by decide)) (eMulL rfl rfl t1)) rfl)) rfl) ?_
    refine bSeq_nx (lft_nx (sAsg_d (x := .int m2v) (eModI (eMulL (i := m1) (j := ot) rfl rfl hm1) rfl C2)) rfl) ?_
    exact lft_rt (sRet_d (eModI (eAddI (eDivI (i := m2v) rfl rfl (by decide)) (eDivI (i := m2v) rfl rfl (by decide))) rfl hn))
end K98

/-! ## LSpec2 -/
/-! What a pick and the drawn manner come to. -/
namespace K98
open PySem PySem.Spec PyProof.Rows L2
theorem atI_ok {xs : List D} {k : Int} (h0 : 0 ≤ k) (hk : k < (xs.length : Int)) : ∃ d, atI xs k = some d ∧ xs[k.toNat]? = some d := by
  have hl : k.toNat < xs.length := by omega
  refine ⟨xs[k.toNat], ?_, List.getElem?_eq_getElem hl⟩
  unfold atI ixN
  rw [if_pos h0, if_pos (by omega)]
  exact List.getElem?_eq_getElem hl
theorem mIx_l {env : List Vl} {hd h1 : List Int} {i : Nat} {f : RM} {k : Int} {xs : List D} {d : D} (e1 : f env hd = some (.int k, h1)) (e2 : env[i]? = some (.l xs)) (e3 : atI xs k = some d) : mIx i f env hd = some (d, h1) := by
  unfold mIx
  rw [e1]
  show (match env[i]? with
    | some (.l xs) => (atI xs k).map fun d => (d, h1)
    | some (.o xs) => (atI xs k).map fun d => (d, h1)
    | _ => none) = _
  rw [e2]
  show (atI xs k).map _ = _
  rw [e3] <;> rfl
theorem f_pick {B : Int} {hd : List Int} {xs : List D} (p : Addr) (h : HdOk B hd) (hB : B < 1000000) (hn : 0 < xs.length) (hn2 : xs.length ≤ 1000) : ∃ d hd', F_law_pick p hd [.l xs] = some (d, hd') ∧ d ∈ xs ∧ HdOk (B + 1) hd' := by
  obtain ⟨k, hd', e1, k0, k1, ok⟩ := f_take p h hB (n := (xs.length : Int)) (by omega) (by omega)
  obtain ⟨d, e2, e3⟩ := atI_ok k0 k1
  refine ⟨d, hd', fnB_ok rfl ?_, List.mem_of_getElem? e3, ok⟩
  have len : aCons (eB1 gLen (aCons (eVar 1) aNil)) aNil [.a p, .l xs] = some [.d (.int (xs.length : Int))] := aCons_ok (eLen_ok (v := .l xs) (xs := xs) rfl rfl) aNil_ok
  exact bRet_ok (mIx_l (mCall_ok (vals := [.d (.int (xs.length : Int))]) rfl (xD_ok len rfl) ⟨rfl, rfl⟩ e1) rfl e2)
section
variable {env : List Vl} {hd h1 h2 : List Int} {p : Addr} {i : Nat} {fa : RM} {fs : RMs}
theorem mCons_ok {d : D} {ds : List D} (e1 : fa env hd = some (d, h1)) (e2 : fs env h1 = some (ds, h2)) : mCons fa fs env hd = some (d :: ds, h2) := by
  unfold mCons
  rw [e1]
  show (fs env h1).map _ = _
  rw [e2] <;> rfl
theorem xL_ok {ds : List D} (e : fs env hd = some (ds, h1)) (hl : ds.length ≤ 1000) : xL fs env hd = some ([.o ds], h1) := by
  unfold xL
  rw [e]
  show (if ds.length ≤ 1000 then _ else none) = _
  rw [if_pos hl]
theorem xM_ok {d : D} (e : fa env hd = some (d, h1)) : xM fa env hd = some ([.d d], h1) := by
  unfold xM
  rw [e] <;> rfl
end
theorem ri_int {i : Int} (h : 0 ≤ i) : (D.int i) = nI i.toNat := by
  unfold nI
  rw [Int.toNat_of_nonneg h]
theorem f_manner {B : Int} {hd : List Int} (p : Addr) (h : HdOk B hd) (hB : B < 900000) : ∃ M hd', F_law_right_manner p hd [.d (.int 5)] = some (encMan M, hd') ∧ Right M ∧ HdOk (B + 5) hd' := by
  obtain ⟨t1, hd1, e1, t10, t11, ok1⟩ := f_take p h (by omega) (n := 5) (by omega) (by omega)
  let E : List Vl := [.a p, .d (.int 5), .un, .un, .un, .un]
  have L : mCons (mD (eD (.int 2))) (mCons (mD (eD (.int 2))) (mCons (mD (eD (.int 3))) (mCons (mD (eD (.int 2))) (mCons (mD (eD (.int 3))) (mCons (mD (eD (.int 2))) (mCons (mD (eD (.int 3))) (mCons (m2 gAdd (mD (eD (.int 1))) (mCall p 0 1 F_law_take (xD (aCons (eVar 1) aNil)))) mNil))))))) E hd = some ([.int 2, .int 2, .int 3, .int 2, .int 3, .int 2, .int 3, .int (1 + t1)], hd1) :=
    mCons_ok rfl (mCons_ok rfl (mCons_ok rfl (mCons_ok rfl (mCons_ok rfl (mCons_ok rfl (mCons_ok rfl (mCons_ok (m2_ok (mD_ok rfl) (mCall_ok (vals := [.d (.int 5)]) rfl rfl ⟨rfl, rfl⟩ e1) rfl) rfl)))))))
  obtain ⟨hv, hd2, e2, m2', ok2⟩ := f_pick p ok1 (by omega) (xs := [.int 2, .int 2, .int 3, .int 2, .int 3, .int 2, .int 3, .int (1 + t1)]) (by simp) (by simp)
  obtain ⟨hands, rfl, hh1, hh5⟩ : ∃ n : Nat, hv = nI n ∧ 1 ≤ n ∧ n ≤ 5 := by
    simp only [List.mem_cons, List.not_mem_nil, or_false] at m2'
    rcases m2' with rfl | rfl | rfl | rfl | rfl | rfl | rfl | rfl
    · exact ⟨2, rfl, by omega, by omega⟩
    · exact ⟨2, rfl, by omega, by omega⟩
    · exact ⟨3, rfl, by omega, by omega⟩
    · exact ⟨2, rfl, by omega, by omega⟩
    · exact ⟨3, rfl, by omega, by omega⟩
    · exact ⟨2, rfl, by omega, by omega⟩
    · exact ⟨3, rfl, by omega, by omega⟩
    · exact ⟨(1 + t1).toNat, ri_int (by omega), by omega, by omega⟩
  have s1 : bAsg 2 (mCall p 0 1 F_law_pick (xL (mCons (mD (eD (.int 2))) (mCons (mD (eD (.int 2))) (mCons (mD (eD (.int 3))) (mCons (mD (eD (.int 2))) (mCons (mD (eD (.int 3))) (mCons (mD (eD (.int 2))) (mCons (mD (eD (.int 3))) (mCons (m2 gAdd (mD (eD (.int 1))) (mCall p 0 1 F_law_take (xD (aCons (eVar 1) aNil)))) mNil)))))))))) E hd = some (.nx [.a p, .d (.int 5), .d (nI hands), .un, .un, .un] hd2) :=
    bAsg_ok (mCall_ok (vals := [.o [.int 2, .int 2, .int 3, .int 2, .int 3, .int 2, .int 3, .int (1 + t1)]]) rfl (xL_ok L (by simp)) ⟨rfl, rfl⟩ e2)
  obtain ⟨t3, hd3, e3, t30, t31, ok3⟩ := f_take p ok2 (by omega) (n := 3) (by omega) (by omega)
  obtain ⟨mv, emv, mv2, mv4⟩ : ∃ n : Nat, D.int (2 + t3) = nI n ∧ 2 ≤ n ∧ n ≤ 4 := ⟨(2 + t3).toNat, ri_int (by omega), by omega, by omega⟩
  have s2 : bAsg 3 (m2 gAdd (mD (eD (.int 2))) (mCall p 0 1 F_law_take (xD (aCons (eD (.int 3)) aNil)))) [.a p, .d (.int 5), .d (nI hands), .un, .un, .un] hd2 = some (.nx [.a p, .d (.int 5), .d (nI hands), .d (nI mv), .un, .un] hd3) := by
    rw [← emv]
    exact bAsg_ok (m2_ok (mD_ok rfl) (mCall_ok (vals := [.d (.int 3)]) rfl rfl ⟨rfl, rfl⟩ e3) rfl)
  obtain ⟨t4, hd4, e4, t40, t41, ok4⟩ := f_take p ok3 (by omega) (n := 8) (by omega) (by omega)
  have s3 : bAsg 4 (mCall p 0 1 F_law_take (xD (aCons (eD (.int 8)) aNil))) [.a p, .d (.int 5), .d (nI hands), .d (nI mv), .un, .un] hd3 = some (.nx [.a p, .d (.int 5), .d (nI hands), .d (nI mv), .d (.int t4), .un] hd4) :=
    bAsg_ok (mCall_ok (vals := [.d (.int 8)]) rfl rfl ⟨rfl, rfl⟩ e4)
  have c1 := cLt_ok (fa := eVar 4) (fb := eD (.int 2)) (env := [.a p, .d (.int 5), .d (nI hands), .d (nI mv), .d (.int t4), .un]) (i := t4) (j := 2) rfl rfl
  by_cases w2 : t4 < 2
  · rw [decide_eq_true w2] at c1
    rcases (show t4 = 0 ∨ t4 = 1 by omega) with rfl | rfl
    · exact ⟨⟨hands, .twice 0⟩, hd4, fnB_ok rfl (bSeq_nx s1 (bSeq_nx s2 (bSeq_nx s3 (bSeq_rt (lft_rt (sIf_t c1 (sRet_d rfl))))))), .twice hands hh1 hh5, ok4.mono (by omega)⟩
    · exact ⟨⟨2, .once⟩, hd4, fnB_ok rfl (bSeq_nx s1 (bSeq_nx s2 (bSeq_nx s3 (bSeq_rt (lft_rt (sIf_t c1 (sRet_d rfl))))))), .once, ok4.mono (by omega)⟩
  rw [decide_eq_false w2] at c1
  have c2 := cEq_int (fa := eVar 4) (fb := eD (.int 2)) (env := [.a p, .d (.int 5), .d (nI hands), .d (nI mv), .d (.int t4), .un]) (a := t4) (b := 2) rfl rfl
  by_cases w3 : t4 = 2
  · rw [decide_eq_true w3] at c2
    let some4 : List D := [encMan ⟨2, .twice 2⟩, encMan ⟨2, .handed 3 mv⟩, encMan ⟨2, .signs 0 0 1⟩, encMan ⟨2, .signs 0 1 mv⟩]
    obtain ⟨d, hd5, e5, m5, ok5⟩ := f_pick p ok4 (by omega) (xs := some4) (by simp [some4]) (by simp [some4])
    have fin : ∀ M : Man, d = encMan M → Right M → ∃ M hd', F_law_right_manner p hd [.d (.int 5)] = some (encMan M, hd') ∧ Right M ∧ HdOk (B + 5) hd' := fun M e r => by
      subst e
      refine ⟨M, hd5, fnB_ok rfl (bSeq_nx s1 (bSeq_nx s2 (bSeq_nx s3 (bSeq_nx (lft_nx (sIf_f c1 sNil_nx) rfl) (bSeq_rt (bIf_t (mTD_ok c2) (bSeq_nx (lft_nx (sAsg_o (xs := some4) rfl) rfl) (bRet_ok (mCall_ok (vals := [.u some4]) rfl rfl ⟨rfl, rfl⟩ e5))))))))), r, ok5.mono (by omega)⟩
    simp only [some4, List.mem_cons, List.not_mem_nil, or_false] at m5
    rcases m5 with m5 | m5 | m5 | m5
    · exact fin _ m5 .twice2
    · exact fin _ m5 (.handed3 mv mv2 mv4)
    · exact fin _ m5 .signs00
    · exact fin _ m5 (.signs01 mv mv2 mv4)
  rw [decide_eq_false w3] at c2
  have c3 := cEq_int (fa := eVar 4) (fb := eD (.int 3)) (env := [.a p, .d (.int 5), .d (nI hands), .d (nI mv), .d (.int t4), .un]) (a := t4) (b := 3) rfl rfl
  by_cases w4 : t4 = 3
  · rw [decide_eq_true w4] at c3
    exact ⟨⟨hands, .handed 0 mv⟩, hd4, fnB_ok rfl (bSeq_nx s1 (bSeq_nx s2 (bSeq_nx s3 (bSeq_nx (lft_nx (sIf_f c1 sNil_nx) rfl) (bSeq_nx (bIf_f (mTD_ok c2) rfl) (bSeq_rt (lft_rt (sIf_t c3 (sRet_d rfl))))))))), .handed hands mv hh1 hh5 mv2 mv4, ok4.mono (by omega)⟩
  · rw [decide_eq_false w4] at c3
    exact ⟨⟨hands, .signs 1 1 mv⟩, hd4, fnB_ok rfl (bSeq_nx s1 (bSeq_nx s2 (bSeq_nx s3 (bSeq_nx (lft_nx (sIf_f c1 sNil_nx) rfl) (bSeq_nx (bIf_f (mTD_ok c2) rfl) (bSeq_nx (lft_nx (sIf_f c3 sNil_nx) rfl) (lft_rt (sRet_d rfl)))))))), .signs hands mv hh1 hh5 mv2 mv4, ok4.mono (by omega)⟩
end K98

/-! ## Spec19 -/
/-! What answer_of comes to. -/
namespace K98
open PySem PySem.Spec PyProof.Rows L2
def toldSums (tl : List (Option (List Int))) : List Int := (tl.filterMap id).map List.sum
def encAns (h : Nat) (items : Items) (tl : List (Option (List Int))) : D := match deedAt items tl.length with
  | some _ => .non
  | none => tInts (toldSums tl)
theorem intsOf_ints : ∀ xs : List Int, intsOf (xs.map D.int) = some xs
  | [] => rfl
  | x :: r => by
    show (intsOf (r.map D.int)).map (fun l => x :: l) = _
    rw [intsOf_ints r] <;> rfl
theorem told_filter : ∀ tl : List (Option (List Int)), (tl.filter fun o => o.isSome).map (fun o => D.int (o.getD []).sum) = (toldSums tl).map D.int
  | [] => rfl
  | none :: r => told_filter r
  | some st :: r => by
    show D.int st.sum :: (r.filter fun o => o.isSome).map (fun o => D.int (o.getD []).sum) = D.int st.sum :: (toldSums r).map D.int
    rw [told_filter r]
theorem f_sanswer {C : Addr} {a b : D} {tl : List (Option (List Int))} (hl : tl.length ≤ 1000) : F_Sums_answer C [.i C (flds a b (.tup (tl.map encTold)))] = some (.d (tInts (toldSums tl))) := by
  have lc : eLc (sTup (eFld C "told" (eVar 0))) (gN 1) (cNotN (eVar 1) (eD .non)) (eB1 gSum (aCons (eVar 1) aNil)) [1] [.i C (flds a b (.tup (tl.map encTold))), .un] = some (.o ((tl.filter fun o => o.isSome).map fun o => D.int (o.getD []).sum)) := by
    refine lc_all (l := tl) encTold (fun o => o.isSome) (fun o => D.int (o.getD []).sum) ?_ hl fun o ho => ⟨_, rfl, ?_, fun hp => ?_⟩
    · unfold sTup
      rw [eFld_ok (n := "told") (show eVar 0 [.i C (flds a b (.tup (tl.map encTold))), .un] = some (.i C (flds a b (.tup (tl.map encTold)))) from rfl) (look_told _ _ _)] <;> rfl
    · unfold cNotN
      rw [t2_ok (show eVar 1 _ = some (.d (encTold o)) from rfl) (show eD .non _ = some (.d .non) from rfl)]
      cases o <;> rfl
    · cases o with
      | none => cases hp
      | some st =>
        rw [eB1_ok (a := .d (tInts st)) (show eVar 1 _ = some (.d (tInts st)) from rfl)]
        unfold gSum
        rw [show seqOf (.d (tInts st)) = some (st.map D.int) from rfl, Option.bind_some, intsOf_ints] <;> rfl
  refine fnD_rt rfl (sRet_d ((eB1_ok lc).trans ?_))
  rw [told_filter] <;> rfl
theorem f_answer {C : Addr} {h : Nat} {items : Items} {tl : List (Option (List Int))} (hl : tl.length ≤ items.length) (hi : items.length ≤ 1000) : F_answer_ofC C [.d (nI h), .d (encJob items), .d (.tup (tl.map encTold))] = some (.d (encAns h items tl)) := by
  let S := flds (.int (h : Int)) (.tup [.str "sums", .tup (encItems items)]) (.tup (tl.map encTold))
  have hx : (encItems items).length = items.length := List.length_map _
  have ht : (tl.map encTold).length = tl.length := List.length_map _
  have s1 : sAsg 3 (eCall 3 (F_at_job C) (aCons (eVar 0) (aCons (eVar 1) (aCons (eVar 2) aNil)))) [.d (nI h), .d (encJob items), .d (.tup (tl.map encTold)), .un] = some (.nx [.d (nI h), .d (encJob items), .d (.tup (tl.map encTold)), .i C S]) := by
    have q : eCall 3 (F_at_job C) (aCons (eVar 0) (aCons (eVar 1) (aCons (eVar 2) aNil))) [.d (nI h), .d (encJob items), .d (.tup (tl.map encTold)), .un] = some (.i C S) := eCall_ok (n := 3) (F := F_at_job C) (v := .i C S) (vals := [.d (nI h), .d (encJob items), .d (.tup (tl.map encTold))]) rfl f_atjob
    unfold sAsg
    rw [q] <;> rfl
  have dd : eMth C "deed" (F_Sums_deed C) (eVar 3) [.d (nI h), .d (encJob items), .d (.tup (tl.map encTold)), .i C S] = some (.d (encOD h (deedAt items tl.length))) := by
    refine eMth_ok (r := .d (encOD h (deedAt items tl.length))) rfl (look_no _ _ _ (by decide +kernel)) (f_sdeed ?_ (by omega) (by omega))
    have q := deedD_is (h := h) (items := items) (told := tl.map encTold) (by omega)
    rw [ht] at q
    exact q
  have c1 : cNotN (eMth C "deed" (F_Sums_deed C) (eVar 3)) (eD .non) [.d (nI h), .d (encJob items), .d (.tup (tl.map encTold)), .i C S] = some (deedAt items tl.length).isSome := by
    unfold cNotN
    rw [t2_ok dd (show eD .non _ = some (.d .non) from rfl)]
    cases deedAt items tl.length with
    | none => rfl
    | some d => cases d <;> rfl
  unfold encAns
  cases e : deedAt items tl.length with
  | some d =>
    rw [e] at c1
    exact fnD_rt rfl (sSeq_nx s1 (sSeq_rt (sIf_t c1 (sRet_d rfl))))
  | none =>
    rw [e] at c1
    exact fnD_rt rfl (sSeq_nx s1 (sSeq_nx (sIf_f c1 sNil_nx) (sRet_d (eMth_ok (r := .d (tInts (toldSums tl))) rfl (look_no _ _ _ (by decide +kernel)) (f_sanswer (by omega))))))
end K98

/-! ## Spec20 -/
/-! Dicts by ints, and a step of followed. -/
namespace K98
open PySem PySem.Spec PyProof.Rows L2
theorem valO_nil {k : Key} : valO [] k = none := rfl
theorem valO_cons {k j : Key} {o : Option D} {r : List (Key × Option D)} : valO ((k, o) :: r) j = if k = j then some o else valO r j := by
  unfold valO
  by_cases h : k = j
  · rw [if_pos h, List.find?_cons_of_pos (by simpa using h)] <;> rfl
  · rw [if_neg h, List.find?_cons_of_neg (by simpa using h)]
theorem any_valO {k : Key} : ∀ {kvs : List (Key × Option D)}, valO kvs k = none → (kvs.any fun kv => decide (kv.1 = k)) = false
  | [], _ => rfl
  | (q, o) :: r, h => by
    rw [valO_cons] at h
    by_cases e : q = k
    · rw [if_pos e] at h; cases h
    · rw [if_neg e] at h
      rw [List.any_cons, any_valO h, Bool.or_false]
      exact decide_eq_false e
theorem valO_app {k j : Key} {o : Option D} : ∀ {kvs : List (Key × Option D)}, valO (kvs ++ [(k, o)]) j = (valO kvs j).or (if k = j then some o else none)
  | [] => by rw [List.nil_append, valO_cons] <;> rfl
  | (q, o2) :: r => by
    rw [List.cons_append, valO_cons, valO_cons]
    by_cases e : q = j
    · rw [if_pos e, if_pos e] <;> rfl
    · rw [if_neg e, if_neg e, valO_app]
theorem putO_new {k : Key} {o : Option D} {kvs : List (Key × Option D)} (h : valO kvs k = none) : putO kvs k o = kvs ++ [(k, o)] := by
  unfold putO
  rw [if_neg (by rw [any_valO h]; simp)]
theorem valO_drop {k j : Key} : ∀ {kvs : List (Key × Option D)}, valO (dropO kvs k) j = if j = k then none else valO kvs j
  | [] => by rw [show dropO [] k = [] from rfl, valO_nil]; split <;> rfl
  | (q, o) :: r => by
    by_cases e : q = k
    · have h1 : dropO ((q, o) :: r) k = dropO r k := by
        unfold dropO
        rw [List.filter_cons_of_neg (by simpa using e)]
      rw [h1, valO_drop, valO_cons]
      by_cases e2 : j = k
      · rw [if_pos e2, if_pos e2]
      · rw [if_neg e2, if_neg e2, if_neg (fun z => e2 (z.symm.trans e))]
    · have h1 : dropO ((q, o) :: r) k = (q, o) :: dropO r k := by
        unfold dropO
        rw [List.filter_cons_of_pos (by simpa using e)]
      rw [h1, valO_cons, valO_cons, valO_drop]
      by_cases e2 : j = k
      · rw [if_pos e2, if_pos e2, if_neg (fun z => e (z.trans e2))]
      · rw [if_neg e2, if_neg e2]
theorem drop_len (kvs : List (Key × Option D)) (k : Key) : (dropO kvs k).length ≤ kvs.length := List.length_filter_le _ _
theorem cNotK_ok {i : Nat} {fe : List Vl → Option Vl} {env : List Vl} {a : Int} {kvs : List (Key × Option D)} (h1 : fe env = some (.d (.int a))) (h2 : env[i]? = some (.k kvs)) : cNotK i fe env = some (!(valO kvs (.inl a)).isSome) := by
  unfold cNotK kOf
  rw [h1, h2] <;> rfl
theorem sPutK_ok {i : Nat} {fe fi : List Vl → Option Vl} {env : List Vl} {a : Int} {y : D} {kvs : List (Key × Option D)} (h1 : fe env = some (.d y)) (h2 : fi env = some (.d (.int a))) (h3 : env[i]? = some (.k kvs)) (h4 : kvs.length ≤ 1000) : sPutK i fe fi env = some (.nx (env.set i (.k (putO kvs (.inl a) (some y))))) := by
  unfold sPutK kOf
  rw [h1, h2, h3]
  show (if kvs.length ≤ 1000 then some (Out.nx (env.set i (.k (putO kvs (.inl a) (some y))))) else none) = _
  rw [if_pos h4]
theorem sPop_ok {i j : Nat} {fi : List Vl → Option Vl} {env : List Vl} {a : Int} {y : D} {kvs : List (Key × Option D)} (h2 : fi env = some (.d (.int a))) (h3 : env[i]? = some (.k kvs)) (h4 : valO kvs (.inl a) = some (some y)) (hij : j ≠ i) : sPop j i fi env = some (.nx ((env.set i (.k (dropO kvs (.inl a)))).set j (.d y))) := by
  unfold sPop kOf
  rw [h2, h3]
  show (valO kvs (.inl a)).bind _ = _
  rw [h4]
  show (if j ≠ i then some (Out.nx ((env.set i (.k (dropO kvs (.inl a)))).set j (.d y))) else none) = _
  rw [if_pos hij]
/-! ### the rows of a story -/
structure SRow where
  h : Nat
  d : Deed
  b : Nat
  e : Option Nat
  tl : Option (List Int)
def optN : Option Nat → D
  | none => .non
  | some t => nI t
def encSRow (q : SRow) : D := .tup [nI q.h, encDeed q.h q.d, nI q.b, optN q.e, encTold q.tl]
structure Fol where
  rows : List SRow
  uw : Nat → Option Nat
def folBegin (s : Fol) (t h : Nat) (d : Deed) : Fol := match s.uw h with
  | some _ => s
  | none => ⟨s.rows ++ [⟨h, d, t, none, none⟩], upd1 s.uw h (some s.rows.length)⟩
def folEnd (s : Fol) (t h : Nat) (d : Deed) (y : Option (List Int)) : Fol :=
  ⟨s.rows.set ((s.uw h).getD 0) ⟨h, d, ((s.rows[(s.uw h).getD 0]?).map SRow.b).getD 0, some (t + 1), y⟩, upd1 s.uw h none⟩
def folStep (s : Fol) (t h : Nat) (d : Deed) (x : Option (Option (List Int))) : Fol := match x with
  | none => folBegin s t h d
  | some y => folEnd (folBegin s t h d) t h d y
def UwOk (s : Fol) (kvs : List (Key × Option D)) : Prop := ∀ h : Nat, valO kvs (.inl (h : Int)) = (s.uw h).map fun i => some (nI i)
def FolOk (s : Fol) : Prop := ∀ h i, s.uw h = some i → i < s.rows.length
theorem folBegin_at (s : Fol) (t h : Nat) (d : Deed) : ∃ i, (folBegin s t h d).uw h = some i := by
  unfold folBegin
  cases e : s.uw h with
  | some i => exact ⟨i, e⟩
  | none => exact ⟨s.rows.length, by simp [upd1]⟩
theorem folBegin_ok {s : Fol} {t h : Nat} {d : Deed} (ok : FolOk s) : FolOk (folBegin s t h d) := by
  unfold folBegin
  cases e : s.uw h with
  | some i => exact ok
  | none =>
    intro j i hi
    show i < (s.rows ++ [_]).length
    rw [List.length_append]
    have hi : upd1 s.uw h (some s.rows.length) j = some i := hi
    unfold upd1 at hi
    split at hi
    · cases hi; exact Nat.lt_succ_self _
    · exact Nat.lt_succ_of_lt (ok j i hi)
theorem folStep_ok {s : Fol} {t h : Nat} {d : Deed} {x : Option (Option (List Int))} (ok : FolOk s) : FolOk (folStep s t h d x) := by
  cases x with
  | none => exact folBegin_ok ok
  | some y =>
    intro j i hi
    show i < ((folBegin s t h d).rows.set _ _).length
    rw [List.length_set]
    have hi : upd1 (folBegin s t h d).uw h none j = some i := hi
    unfold upd1 at hi
    split at hi
    · cases hi
    · exact folBegin_ok ok j i hi
theorem folStep_len {s : Fol} {t h : Nat} {d : Deed} {x : Option (Option (List Int))} : (folStep s t h d x).rows.length ≤ s.rows.length + 1 := by
  have hb : (folBegin s t h d).rows.length ≤ s.rows.length + 1 := by
    unfold folBegin
    cases s.uw h with
    | some i => exact Nat.le_succ _
    | none => show (s.rows ++ [_]).length ≤ _; rw [List.length_append]; exact Nat.le_refl _
  cases x with
  | none => exact hb
  | some y => show ((folBegin s t h d).rows.set _ _).length ≤ _; rw [List.length_set]; exact hb
theorem intCast_inj {a b : Nat} : ((.inl (a : Int) : Key) = .inl (b : Int)) ↔ a = b := ⟨fun h => by have := Sum.inl.inj h; omega, fun h => by rw [h]⟩
theorem uw_put {s : Fol} {kvs : List (Key × Option D)} {h i : Nat} (ok : UwOk s kvs) (hn : s.uw h = none) {rows : List SRow} : UwOk ⟨rows, upd1 s.uw h (some i)⟩ (putO kvs (.inl (h : Int)) (some (nI i))) := fun j => by
  have h1 : valO kvs (.inl (h : Int)) = none := by rw [ok h, hn] <;> rfl
  rw [putO_new h1, valO_app, ok j]
  show _ = (upd1 s.uw h (some i) j).map _
  unfold upd1
  by_cases e : j = h
  · subst e
    rw [if_pos rfl, if_pos rfl, hn] <;> rfl
  · rw [if_neg e, if_neg (fun z => e (intCast_inj.mp z).symm)]
    cases s.uw j <;> rfl
theorem uw_drop {s : Fol} {kvs : List (Key × Option D)} {h : Nat} (ok : UwOk s kvs) {rows : List SRow} : UwOk ⟨rows, upd1 s.uw h none⟩ (dropO kvs (.inl (h : Int))) := fun j => by
  rw [valO_drop, ok j]
  show _ = (upd1 s.uw h none j).map _
  unfold upd1
  by_cases e : j = h
  · rw [if_pos e, if_pos (intCast_inj.mpr e)] <;> rfl
  · rw [if_neg e, if_neg (fun z => e (intCast_inj.mp z))]
end K98

/-! ## Spec21 -/
/-! A step of followed. -/
namespace K98
open PySem PySem.Spec PyProof.Rows L2
def folB : List Vl → Option Out := sIf (cNotK 6 (eVar 8)) (sSeq (sPutK 6 (eB1 gLen (aCons (eVar 5) aNil)) (eVar 8)) (sApp 5 (aCons (eTup (aCons (eVar 8) (aCons (eVar 9) (aCons (eVar 7) (aCons (eD .non) (aCons (eD .non) aNil)))))) aNil))) sNil
def folE : List Vl → Option Out := sIf (cNotN (eVar 10) (eD .non)) (sSeq (sPop 11 6 (eVar 8)) (sPut 5 (eTup (aCons (eVar 8) (aCons (eVar 9) (aCons (eIx (eIx (eVar 5) (eVar 11)) (eD (.int 2))) (aCons (eAdd (eVar 7) (eD (.int 1))) (aCons (eIx (eVar 10) (eD (.int 1))) aNil)))))) (eVar 11))) sNil
theorem folB_ok {s : Fol} {kvs : List (Key × Option D)} {M J W R : D} {rooms : List D} {t h : Nat} {d : Deed} {v10 v11 : Vl} (ok : UwOk s kvs) (hk : kvs.length ≤ 1000) (hr : s.rows.length ≤ 1000) :
    ∃ kvs', folB [.d M, .d J, .d W, .d R, .o rooms, .o (s.rows.map encSRow), .k kvs, .d (nI t), .d (nI h), .d (encDeed h d), v10, v11] = some (.nx [.d M, .d J, .d W, .d R, .o rooms, .o ((folBegin s t h d).rows.map encSRow), .k kvs', .d (nI t), .d (nI h), .d (encDeed h d), v10, v11]) ∧ UwOk (folBegin s t h d) kvs' ∧ kvs'.length ≤ kvs.length + 1 := by
  have c := cNotK_ok (i := 6) (fe := eVar 8) (env := [.d M, .d J, .d W, .d R, .o rooms, .o (s.rows.map encSRow), .k kvs, .d (nI t), .d (nI h), .d (encDeed h d), v10, v11]) (a := (h : Int)) rfl rfl
  rw [ok h] at c
  unfold folBegin
  cases e : s.uw h with
  | some i =>
    rw [e] at c
    exact ⟨kvs, sIf_f c sNil_nx, ok, Nat.le_succ _⟩
  | none =>
    rw [e] at c
    have hv : valO kvs (.inl (h : Int)) = none := by rw [ok h, e] <;> rfl
    refine ⟨putO kvs (.inl (h : Int)) (some (nI s.rows.length)), ?_, uw_put ok e, by rw [putO_new hv, List.length_append] <;> exact Nat.le_refl _⟩
    have s1 := sPutK_ok (i := 6) (fe := eB1 gLen (aCons (eVar 5) aNil)) (fi := eVar 8) (env := [.d M, .d J, .d W, .d R, .o rooms, .o (s.rows.map encSRow), .k kvs, .d (nI t), .d (nI h), .d (encDeed h d), v10, v11]) (a := (h : Int)) (y := nI s.rows.length) ((eLen_ok (xs := s.rows.map encSRow) rfl rfl).trans (by rw [List.length_map] <;> rfl)) rfl rfl hk
    have s2 : sApp 5 (aCons (eTup (aCons (eVar 8) (aCons (eVar 9) (aCons (eVar 7) (aCons (eD .non) (aCons (eD .non) aNil)))))) aNil) [.d M, .d J, .d W, .d R, .o rooms, .o (s.rows.map encSRow), .k (putO kvs (.inl (h : Int)) (some (nI s.rows.length))), .d (nI t), .d (nI h), .d (encDeed h d), v10, v11] = some (.nx [.d M, .d J, .d W, .d R, .o rooms, .o (s.rows.map encSRow ++ [encSRow ⟨h, d, t, none, none⟩]), .k (putO kvs (.inl (h : Int)) (some (nI s.rows.length))), .d (nI t), .d (nI h), .d (encDeed h d), v10, v11]) :=
      sApp_ok rfl (aCons_ok (eTup_ok (ds := [nI h, encDeed h d, nI t, .non, .non]) rfl rfl (by simp)) aNil_ok) (by rw [List.length_map]; exact hr)
    have q : (s.rows ++ [(⟨h, d, t, none, none⟩ : SRow)]).map encSRow = s.rows.map encSRow ++ [encSRow ⟨h, d, t, none, none⟩] := List.map_append
    show folB _ = some (.nx [_, _, _, _, _, .o ((s.rows ++ [(⟨h, d, t, none, none⟩ : SRow)]).map encSRow), _, _, _, _, _, _])
    rw [q]
    exact sIf_t c (sSeq_nx s1 s2)
theorem folE_none {env : List Vl} (h : eVar 10 env = some (.d .non)) : folE env = some (.nx env) := by
  refine sIf_f ?_ sNil_nx
  unfold cNotN
  rw [t2_ok h (show eD .non env = some (.d .non) from rfl)] <;> rfl
theorem folE_some {s : Fol} {kvs : List (Key × Option D)} {M J W R : D} {rooms : List D} {t h i : Nat} {d : Deed} {y : Option (List Int)} {sn : D} {v11 : Vl} (ok : UwOk s kvs) (fo : FolOk s) (hi : s.uw h = some i) :
    ∃ v11', folE [.d M, .d J, .d W, .d R, .o rooms, .o (s.rows.map encSRow), .k kvs, .d (nI t), .d (nI h), .d (encDeed h d), .d (.tup [encDeed h d, encTold y, sn]), v11] = some (.nx [.d M, .d J, .d W, .d R, .o rooms, .o ((folEnd s t h d y).rows.map encSRow), .k (dropO kvs (.inl (h : Int))), .d (nI t), .d (nI h), .d (encDeed h d), .d (.tup [encDeed h d, encTold y, sn]), v11']) := by
  have hl := fo h i hi
  have hv : valO kvs (.inl (h : Int)) = some (some (nI i)) := by rw [ok h, hi] <;> rfl
  have c : cNotN (eVar 10) (eD .non) [.d M, .d J, .d W, .d R, .o rooms, .o (s.rows.map encSRow), .k kvs, .d (nI t), .d (nI h), .d (encDeed h d), .d (.tup [encDeed h d, encTold y, sn]), v11] = some true := by
    unfold cNotN
    rw [t2_ok (show eVar 10 _ = some (.d (.tup [encDeed h d, encTold y, sn])) from rfl) (show eD .non _ = some (.d .non) from rfl)] <;> rfl
  have s1 := sPop_ok (i := 6) (j := 11) (fi := eVar 8) (env := [.d M, .d J, .d W, .d R, .o rooms, .o (s.rows.map encSRow), .k kvs, .d (nI t), .d (nI h), .d (encDeed h d), .d (.tup [encDeed h d, encTold y, sn]), v11]) (a := (h : Int)) rfl rfl hv (by decide)
  have hg : (s.rows.map encSRow)[i]? = some (encSRow s.rows[i]) := by rw [List.getElem?_map, List.getElem?_eq_getElem hl] <;> rfl
  have ix : eIx (eIx (eVar 5) (eVar 11)) (eD (.int 2)) [.d M, .d J, .d W, .d R, .o rooms, .o (s.rows.map encSRow), .k (dropO kvs (.inl (h : Int))), .d (nI t), .d (nI h), .d (encDeed h d), .d (.tup [encDeed h d, encTold y, sn]), .d (nI i)] = some (.d (nI s.rows[i].b)) :=
    eIx_at (j := 2) (eIx_at (j := i) (xs := s.rows.map encSRow) rfl rfl rfl hg) rfl rfl rfl
  have tu : eTup (aCons (eVar 8) (aCons (eVar 9) (aCons (eIx (eIx (eVar 5) (eVar 11)) (eD (.int 2))) (aCons (eAdd (eVar 7) (eD (.int 1))) (aCons (eIx (eVar 10) (eD (.int 1))) aNil))))) [.d M, .d J, .d W, .d R, .o rooms, .o (s.rows.map encSRow), .k (dropO kvs (.inl (h : Int))), .d (nI t), .d (nI h), .d (encDeed h d), .d (.tup [encDeed h d, encTold y, sn]), .d (nI i)] = some (.d (encSRow ⟨h, d, s.rows[i].b, some (t + 1), y⟩)) :=
    eTup_ok (ds := [nI h, encDeed h d, nI s.rows[i].b, nI (t + 1), encTold y]) (aCons_ok rfl (aCons_ok rfl (aCons_ok ix (aCons_ok (eAdd_ok (i := t) (j := 1) rfl rfl) (aCons_ok (eIx_at (j := 1) rfl rfl rfl rfl) aNil_ok))))) rfl (by simp)
  have s2 := sPut_ok (i := 5) (j := i) (fi := eVar 11) tu (xs := s.rows.map encSRow) rfl rfl (by rw [List.length_map]; exact hl)
  refine ⟨.d (nI i), ?_⟩
  have q : (folEnd s t h d y).rows.map encSRow = (s.rows.map encSRow).set i (encSRow ⟨h, d, s.rows[i].b, some (t + 1), y⟩) := by
    unfold folEnd
    rw [hi, Option.getD_some, List.getElem?_eq_getElem hl, List.map_set] <;> rfl
  rw [q]
  exact sIf_t c (sSeq_nx s1 s2)
end K98

/-! ## Spec22 -/
/-! followed, over a run. -/
namespace K98
open PySem PySem.Spec PyProof.Rows L2
def folRun (M : Man) (jobs : Nat → Items) (R : Nat → Rm) (w : Nat → Nat) : Nat → Fol
  | 0 => ⟨[], fun _ => none⟩
  | t + 1 => match stepped M jobs (R t) (w t) with
    | some (_, d, x) => folStep (folRun M jobs R w t) t (w t) d x
    | none => folRun M jobs R w t
theorem rm_run {M : Man} {jobs : Nat → Items} {R : Nat → Rm} {w : Nat → Nat} {T : Nat} (hn : 1 ≤ M.n) (ru : Run M jobs R w T) : ∀ t, t ≤ T → RmOk M.k M.n jobs (R t) t
  | 0, _ => by rw [ru.zero]; exact rm_begun hn
  | t + 1, ht => by
    obtain ⟨d, x, e⟩ := ru.step t ht
    exact rm_step hn (ru.hand t ht) (rm_run hn ru t (Nat.le_of_lt ht)) e
theorem enumD_get : ∀ (xs : List D) (i j : Nat), (enumD i xs)[j]? = (xs[j]?).map fun x => D.tup [nI (i + j), x]
  | [], i, j => by simp [enumD]
  | x :: r, i, 0 => rfl
  | x :: r, i, j + 1 => by
    show (enumD (i + 1) r)[j]? = _
    rw [enumD_get r (i + 1) j, show i + 1 + j = i + (j + 1) by omega] <;> rfl
def weavD (w : Nat → Nat) (T : Nat) : List D := (List.range T).map fun t => nI (w t)
def roomsD (M : Man) (R : Nat → Rm) (t : Nat) : List D := (List.range t).map fun i => encRoom M.k M.n (R i)
def bodyF : List Vl → Option Out := sSeq (sAsg 9 (eCall 3 F_deed_there (aCons (eVar 1) (aCons (eVar 3) (aCons (eVar 8) aNil))))) (sSeq (sIf (cIsN (eVar 9) (eD .non)) sNo sNil) (sSeq folB (sSeq (sUnp [3, 10] (eCall 4 F_stepped_end (aCons (eVar 0) (aCons (eVar 1) (aCons (eVar 3) (aCons (eVar 8) aNil)))))) (sSeq folE (sApp 4 (aCons (eVar 3) aNil))))))
theorem bodyF_ok {M : Man} {jobs : Nat → Items} {r : Rm} {h t : Nat} {d : Deed} {W : D} {rooms : List D} {s : Fol} {kvs : List (Key × Option D)} {v9 v10 v11 : Vl}
    (so : StepOk M.k M.n jobs r h d) (ok : UwOk s kvs) (fo : FolOk s) (hk : kvs.length ≤ 900) (hr : s.rows.length ≤ 900) (hro : rooms.length ≤ 1000) :
    ∃ r2 x kvs' v9' v10' v11', stepped M jobs r h = some (r2, d, x) ∧
      bodyF [.d (encMan' M.n M.k), .d (encJobs M.n jobs), .d W, .d (encRoom M.k M.n r), .o rooms, .o (s.rows.map encSRow), .k kvs, .d (nI t), .d (nI h), v9, v10, v11] =
        some (.nx [.d (encMan' M.n M.k), .d (encJobs M.n jobs), .d W, .d (encRoom M.k M.n r2), .o (rooms ++ [encRoom M.k M.n r2]), .o ((folStep s t h d x).rows.map encSRow), .k kvs', .d (nI t), .d (nI h), v9', v10', v11']) ∧
      UwOk (folStep s t h d x) kvs' ∧ kvs'.length ≤ kvs.length + 1 := by
  obtain ⟨r2, x, e, fe⟩ := f_stepped_end so
  obtain ⟨kvs1, hb, ok1, hk1⟩ := folB_ok (M := encMan' M.n M.k) (J := encJobs M.n jobs) (W := W) (R := encRoom M.k M.n r) (rooms := rooms) (t := t) (h := h) (d := d) (v10 := v10) (v11 := v11) ok (by omega) (by omega)
  have ft := f_there (k := M.k) so.hh (so.told h so.hh) (so.items h so.hh)
  rw [so.deed] at ft
  have s1 : sAsg 9 (eCall 3 F_deed_there (aCons (eVar 1) (aCons (eVar 3) (aCons (eVar 8) aNil)))) [.d (encMan' M.n M.k), .d (encJobs M.n jobs), .d W, .d (encRoom M.k M.n r), .o rooms, .o (s.rows.map encSRow), .k kvs, .d (nI t), .d (nI h), v9, v10, v11] = some (.nx [.d (encMan' M.n M.k), .d (encJobs M.n jobs), .d W, .d (encRoom M.k M.n r), .o rooms, .o (s.rows.map encSRow), .k kvs, .d (nI t), .d (nI h), .d (encDeed h d), v10, v11]) :=
    sAsg_d (eCall_ok (n := 3) (v := .d (encDeed h d)) (vals := [.d (encJobs M.n jobs), .d (encRoom M.k M.n r), .d (nI h)]) rfl ft)
  have c1 : sIf (cIsN (eVar 9) (eD .non)) sNo sNil [.d (encMan' M.n M.k), .d (encJobs M.n jobs), .d W, .d (encRoom M.k M.n r), .o rooms, .o (s.rows.map encSRow), .k kvs, .d (nI t), .d (nI h), .d (encDeed h d), v10, v11] = some (.nx [.d (encMan' M.n M.k), .d (encJobs M.n jobs), .d W, .d (encRoom M.k M.n r), .o rooms, .o (s.rows.map encSRow), .k kvs, .d (nI t), .d (nI h), .d (encDeed h d), v10, v11]) :=
    sIf_f (cIsN_c (d := encDeed h d) rfl (by cases d <;> rfl)) sNil_nx
  have s2 : sUnp [3, 10] (eCall 4 F_stepped_end (aCons (eVar 0) (aCons (eVar 1) (aCons (eVar 3) (aCons (eVar 8) aNil))))) [.d (encMan' M.n M.k), .d (encJobs M.n jobs), .d W, .d (encRoom M.k M.n r), .o rooms, .o ((folBegin s t h d).rows.map encSRow), .k kvs1, .d (nI t), .d (nI h), .d (encDeed h d), v10, v11] = some (.nx [.d (encMan' M.n M.k), .d (encJobs M.n jobs), .d W, .d (encRoom M.k M.n r2), .o rooms, .o ((folBegin s t h d).rows.map encSRow), .k kvs1, .d (nI t), .d (nI h), .d (encDeed h d), .d (endD h d (sinceBegin M.n r h d) x), v11]) :=
    sUnp_ok (v := .d (.tup [encRoom M.k M.n r2, endD h d (sinceBegin M.n r h d) x])) (xs := [encRoom M.k M.n r2, endD h d (sinceBegin M.n r h d) x]) (eCall_ok (n := 4) (v := .d (.tup [encRoom M.k M.n r2, endD h d (sinceBegin M.n r h d) x])) (vals := [.d (encMan' M.n M.k), .d (encJobs M.n jobs), .d (encRoom M.k M.n r), .d (nI h)]) rfl fe) rfl rfl
  cases x with
  | none =>
    exact ⟨r2, none, kvs1, _, _, _, e, sSeq_nx s1 (sSeq_nx c1 (sSeq_nx hb (sSeq_nx s2 (sSeq_nx (folE_none rfl) (sApp_ok rfl (aCons_ok rfl aNil_ok) hro))))), ok1, hk1⟩
  | some y =>
    obtain ⟨i, hi⟩ := folBegin_at s t h d
    obtain ⟨v11', h3⟩ := folE_some (M := encMan' M.n M.k) (J := encJobs M.n jobs) (W := W) (R := encRoom M.k M.n r2) (rooms := rooms) (t := t) (y := y) (d := d) (sn := .tup ((sinceBegin M.n r h d).map tInts)) (v11 := v11) ok1 (folBegin_ok fo) hi
    exact ⟨r2, some y, _, _, _, _, e, sSeq_nx s1 (sSeq_nx c1 (sSeq_nx hb (sSeq_nx s2 (sSeq_nx h3 (sApp_ok rfl (aCons_ok rfl aNil_ok) hro))))), uw_drop ok1, Nat.le_trans (drop_len _ _) hk1⟩
end K98

/-! ## Spec23 -/
/-! followed and story, over a run. -/
namespace K98
open PySem PySem.Spec PyProof.Rows L2
theorem roomsD_succ (M : Man) (R : Nat → Rm) (t : Nat) : roomsD M R (t + 1) = roomsD M R t ++ [encRoom M.k M.n (R t)] := by
  unfold roomsD
  rw [List.range_succ, List.map_append] <;> rfl
structure FInv (M : Man) (jobs : Nat → Items) (R : Nat → Rm) (w : Nat → Nat) (T : Nat) (t : Nat) (env : List Vl) : Prop where
  ex : ∃ kvs v7 v8 v9 v10 v11, env = [.d (encMan' M.n M.k), .d (encJobs M.n jobs), .d (.tup (weavD w T)), .d (encRoom M.k M.n (R t)), .o (roomsD M R (t + 1)), .o ((folRun M jobs R w t).rows.map encSRow), .k kvs, v7, v8, v9, v10, v11] ∧ UwOk (folRun M jobs R w t) kvs ∧ kvs.length ≤ t
  fo : FolOk (folRun M jobs R w t)
  len : (folRun M jobs R w t).rows.length ≤ t
theorem f_followed {M : Man} {jobs : Nat → Items} {R : Nat → Rm} {w : Nat → Nat} {T : Nat} (h1 : 1 ≤ M.n) (hn : M.n ≤ 5) (kk : KdOk M.k) (hj : ∀ i, i < M.n → (jobs i).length ≤ 900) (hT : T ≤ 800) (ru : Run M jobs R w T) :
    F_followed [.d (encMan' M.n M.k), .d (encJobs M.n jobs), .d (.tup (weavD w T))] = some (.p ((folRun M jobs R w T).rows.map encSRow) (roomsD M R (T + 1))) := by
  have hl : (weavD w T).length = T := by unfold weavD; rw [List.length_map, List.length_range]
  have s1 : sAsg 3 (eCall 2 F_begun (aCons (eVar 0) (aCons (eVar 1) aNil))) [.d (encMan' M.n M.k), .d (encJobs M.n jobs), .d (.tup (weavD w T)), .un, .un, .un, .un, .un, .un, .un, .un, .un] = some (.nx [.d (encMan' M.n M.k), .d (encJobs M.n jobs), .d (.tup (weavD w T)), .d (encRoom M.k M.n (R 0)), .un, .un, .un, .un, .un, .un, .un, .un]) := by
    rw [ru.zero]
    exact sAsg_d (eCall_ok (n := 2) (v := .d (encRoom M.k M.n (begun M.k M.n))) (vals := [.d (encMan' M.n M.k), .d (encJobs M.n jobs)]) rfl (f_begun h1 hn kk jobs))
  have s2 : sAsg 4 (eLst (aCons (eVar 3) aNil)) [.d (encMan' M.n M.k), .d (encJobs M.n jobs), .d (.tup (weavD w T)), .d (encRoom M.k M.n (R 0)), .un, .un, .un, .un, .un, .un, .un, .un] = some (.nx [.d (encMan' M.n M.k), .d (encJobs M.n jobs), .d (.tup (weavD w T)), .d (encRoom M.k M.n (R 0)), .o (roomsD M R 1), .un, .un, .un, .un, .un, .un, .un]) := sAsg_o rfl
  have s3 : sAsg 5 (eLst aNil) [.d (encMan' M.n M.k), .d (encJobs M.n jobs), .d (.tup (weavD w T)), .d (encRoom M.k M.n (R 0)), .o (roomsD M R 1), .un, .un, .un, .un, .un, .un, .un] = some (.nx [.d (encMan' M.n M.k), .d (encJobs M.n jobs), .d (.tup (weavD w T)), .d (encRoom M.k M.n (R 0)), .o (roomsD M R 1), .o [], .un, .un, .un, .un, .un, .un]) := sAsg_o rfl
  have s4 : sAsg 6 eNewK [.d (encMan' M.n M.k), .d (encJobs M.n jobs), .d (.tup (weavD w T)), .d (encRoom M.k M.n (R 0)), .o (roomsD M R 1), .o [], .un, .un, .un, .un, .un, .un] = some (.nx [.d (encMan' M.n M.k), .d (encJobs M.n jobs), .d (.tup (weavD w T)), .d (encRoom M.k M.n (R 0)), .o (roomsD M R 1), .o [], .k [], .un, .un, .un, .un, .un]) := rfl
  have i0 : FInv M jobs R w T 0 [.d (encMan' M.n M.k), .d (encJobs M.n jobs), .d (.tup (weavD w T)), .d (encRoom M.k M.n (R 0)), .o (roomsD M R 1), .o [], .k [], .un, .un, .un, .un, .un] :=
    ⟨⟨[], _, _, _, _, _, rfl, fun h => rfl, Nat.le_refl _⟩, (fun h i e => by cases e), Nat.le_refl _⟩
  obtain ⟨e', q1, q2⟩ := forM_inv (gd := gP [7, 8]) (body := bodyF) (FInv M jobs R w T) (enumD 0 (weavD w T)) 0 _ i0 (fun t dd env hd iv => by
    rw [Nat.zero_add] at iv ⊢
    rw [enumD_get] at hd
    obtain ⟨x, hx, rfl⟩ := Option.map_eq_some_iff.mp hd
    have ht : t < T := by
      rw [← hl]
      exact (List.getElem?_eq_some_iff.mp hx).1
    have hw : (weavD w T)[t]? = some (nI (w t)) := by
      unfold weavD
      rw [List.getElem?_map, List.getElem?_range ht] <;> rfl
    cases hw.symm.trans hx
    rw [Nat.zero_add]
    obtain ⟨⟨kvs, v7, v8, v9, v10, v11, rfl, uw, hk⟩, fo, len⟩ := iv
    obtain ⟨d, x, e⟩ := ru.step t ht
    obtain ⟨st, q⟩ := stepped_is e
    have so := step_of (jobs := jobs) hn (ru.hand t ht) kk (by omega) hj (rm_run h1 ru t (Nat.le_of_lt ht)) q.deed
    obtain ⟨r2, x2, kvs', v9', v10', v11', e2, hb, uw', hk'⟩ := bodyF_ok (t := t) (W := .tup (weavD w T)) (rooms := roomsD M R (t + 1)) (v9 := v9) (v10 := v10) (v11 := v11) so uw fo (by omega) (by omega) (by unfold roomsD; rw [List.length_map, List.length_range]; omega)
    have e3 := e2.symm.trans e
    cases e3
    have hs : folRun M jobs R w (t + 1) = folStep (folRun M jobs R w t) t (w t) d x := by
      show (match stepped M jobs (R t) (w t) with
        | some (_, d, x) => folStep (folRun M jobs R w t) t (w t) d x
        | none => folRun M jobs R w t) = _
      rw [e]
    refine ⟨_, _, rfl, hb, ⟨⟨kvs', .d (nI t), .d (nI (w t)), v9', v10', v11', ?_, by rw [hs]; exact uw', by omega⟩, by rw [hs]; exact folStep_ok fo, by rw [hs]; exact Nat.le_trans folStep_len (by omega)⟩⟩
    rw [hs, roomsD_succ M R (t + 1)])
  rw [enumD_len, hl, Nat.zero_add] at q2
  obtain ⟨⟨kvs, v7, v8, v9, v10, v11, rfl, uw, hk⟩, fo, len⟩ := q2
  have s5 : sFor (sEnumT (aCons (eVar 2) aNil)) (gP [7, 8]) bodyF [.d (encMan' M.n M.k), .d (encJobs M.n jobs), .d (.tup (weavD w T)), .d (encRoom M.k M.n (R 0)), .o (roomsD M R 1), .o [], .k [], .un, .un, .un, .un, .un] = some (.nx [.d (encMan' M.n M.k), .d (encJobs M.n jobs), .d (.tup (weavD w T)), .d (encRoom M.k M.n (R T)), .o (roomsD M R (T + 1)), .o ((folRun M jobs R w T).rows.map encSRow), .k kvs, v7, v8, v9, v10, v11]) := q1
  exact fnD_rt rfl (sSeq_nx s1 (sSeq_nx s2 (sSeq_nx s3 (sSeq_nx s4 (sSeq_nx s5 rfl)))))
theorem f_story {M : Man} {jobs : Nat → Items} {R : Nat → Rm} {w : Nat → Nat} {T : Nat} (h1 : 1 ≤ M.n) (hn : M.n ≤ 5) (kk : KdOk M.k) (hj : ∀ i, i < M.n → (jobs i).length ≤ 900) (hT : T ≤ 800) (ru : Run M jobs R w T) :
    F_story [.d (encMan' M.n M.k), .d (encJobs M.n jobs), .d (.tup (weavD w T))] = some (.d (.tup ((folRun M jobs R w T).rows.map encSRow))) := by
  have q := eCall_ok (n := 3) (F := F_followed) (fs := aCons (eVar 0) (aCons (eVar 1) (aCons (eVar 2) aNil))) (env := [.d (encMan' M.n M.k), .d (encJobs M.n jobs), .d (.tup (weavD w T))]) (vals := [.d (encMan' M.n M.k), .d (encJobs M.n jobs), .d (.tup (weavD w T))]) rfl (f_followed h1 hn kk hj hT ru)
  have q2 : eFst (eCall 3 F_followed (aCons (eVar 0) (aCons (eVar 1) (aCons (eVar 2) aNil)))) [.d (encMan' M.n M.k), .d (encJobs M.n jobs), .d (.tup (weavD w T))] = some (.u ((folRun M jobs R w T).rows.map encSRow)) := by
    unfold eFst
    rw [q] <;> rfl
  exact fnD_rt rfl (sRet_d ((eB1_ok q2).trans rfl))
end K98

/-! ## Spec24 -/
/-! The total of a story's rows. -/
namespace K98
open PySem PySem.Spec PyProof.Rows L2
def putA (al : List (Nat × Int)) (h : Nat) (v : Int) : List (Nat × Int) :=
  if (al.any fun kv => decide (kv.1 = h)) = true then al.map (fun kv => if kv.1 = h then (kv.1, v) else kv) else al ++ [(h, v)]
def encA (al : List (Nat × Int)) : List (Key × Option D) := al.map fun kv => (.inl (kv.1 : Int), some (.int kv.2))
theorem encA_any (h : Nat) : ∀ al : List (Nat × Int), ((encA al).any fun kv => decide (kv.1 = .inl (h : Int))) = al.any fun kv => decide (kv.1 = h)
  | [] => rfl
  | (j, v) :: r => by
    show (decide ((.inl (j : Int) : Key) = .inl (h : Int)) || (encA r).any _) = (decide (j = h) || r.any _)
    rw [encA_any h r, decide_eq_decide.mpr (intCast_inj (a := j) (b := h))]
theorem encA_map (h : Nat) (v : Int) : ∀ al : List (Nat × Int), (encA al).map (fun kv => if kv.1 = .inl (h : Int) then (kv.1, some (.int v)) else kv) = encA (al.map fun kv => if kv.1 = h then (kv.1, v) else kv)
  | [] => rfl
  | (j, u) :: r => by
    show (if (.inl (j : Int) : Key) = .inl (h : Int) then _ else _) :: (encA r).map _ = _ :: encA (r.map _)
    rw [encA_map h v r]
    by_cases e : j = h
    · rw [if_pos (intCast_inj.mpr e)]
      subst e
      simp [encA]
    · rw [if_neg (fun z => e (intCast_inj.mp z))]
      simp [encA, e]
theorem encA_put (al : List (Nat × Int)) (h : Nat) (v : Int) : putO (encA al) (.inl (h : Int)) (some (.int v)) = encA (putA al h v) := by
  unfold putO putA
  rw [encA_any]
  split
  · exact encA_map h v al
  · unfold encA
    rw [List.map_append] <;> rfl
theorem putA_len (al : List (Nat × Int)) (h : Nat) (v : Int) : (putA al h v).length ≤ al.length + 1 := by
  unfold putA
  split
  · rw [List.length_map]; exact Nat.le_succ _
  · rw [List.length_append]; exact Nat.le_refl _
theorem encA_ints : ∀ al : List (Nat × Int), intsO (encA al) = some (al.map (·.2))
  | [] => rfl
  | (j, v) :: r => by
    show (intsO (encA r)).map (fun l => v :: l) = _
    rw [encA_ints r] <;> rfl
/-- a row counts among the total behind m steps -/
def counts (m : Nat) (q : SRow) : Option Int := match q.d, q.e with
  | .put v, some e => if e ≤ m then some v else none
  | _, _ => none
def totStep (m : Nat) (al : List (Nat × Int)) (q : SRow) : List (Nat × Int) := match counts m q with
  | some v => putA al q.h v
  | none => al
def totA (rows : List SRow) (m : Nat) : List (Nat × Int) := rows.foldl (totStep m) []
def total (rows : List SRow) (m : Nat) : Int := ((totA rows m).map (·.2)).sum
def ltBody : List Vl → Option Out := sIf (cAnd (cEq (eIx (eVar 4) (eD (.int 0))) (eD (.str "put"))) (cAnd (cNotN (eVar 6) (eD .non)) (cLe (eVar 6) (eVar 1)))) (sPutK 2 (eIx (eVar 4) (eD (.int 2))) (eVar 3)) sNil
theorem cLe_nat {fa fb : List Vl → Option Vl} {env : List Vl} {i j : Nat} (h1 : fa env = some (.d (nI i))) (h2 : fb env = some (.d (nI j))) : cLe fa fb env = some (decide (i ≤ j)) := by
  unfold cLe
  rw [t2_ok h1 h2]
  exact congrArg some (decide_eq_decide.mpr (by omega))
theorem ltBody_ok {q : SRow} {m : Nat} {al : List (Nat × Int)} {R x : D} {y : Vl} (hl : al.length ≤ 1000) :
    ltBody [.d R, .d (nI m), .k (encA al), .d (nI q.h), .d (encDeed q.h q.d), .d x, .d (optN q.e), y] = some (.nx [.d R, .d (nI m), .k (encA (totStep m al q)), .d (nI q.h), .d (encDeed q.h q.d), .d x, .d (optN q.e), y]) := by
  obtain ⟨h, d, b, e, tl⟩ := q
  cases d with
  | look => exact sIf_f (cAnd_f (cEq_s (a := "look") (b := "put") false (eIx_at (j := 0) rfl rfl rfl rfl) rfl)) sNil_nx
  | put v =>
    have c1 : cEq (eIx (eVar 4) (eD (.int 0))) (eD (.str "put")) [.d R, .d (nI m), .k (encA al), .d (nI h), .d (encDeed h (.put v)), .d x, .d (optN e), y] = some true := cEq_s (a := "put") (b := "put") true (eIx_at (j := 0) rfl rfl rfl rfl) rfl
    cases e with
    | none =>
      have c2 : cNotN (eVar 6) (eD .non) [.d R, .d (nI m), .k (encA al), .d (nI h), .d (encDeed h (.put v)), .d x, .d (optN none), y] = some false := by
        unfold cNotN
        rw [t2_ok (show eVar 6 _ = some (.d .non) from rfl) (show eD .non _ = some (.d .non) from rfl)] <;> rfl
      exact sIf_f (cAnd_t c1 (cAnd_f c2)) sNil_nx
    | some e =>
      have c2 : cNotN (eVar 6) (eD .non) [.d R, .d (nI m), .k (encA al), .d (nI h), .d (encDeed h (.put v)), .d x, .d (optN (some e)), y] = some true := by
        unfold cNotN
        rw [t2_ok (show eVar 6 _ = some (.d (nI e)) from rfl) (show eD .non _ = some (.d .non) from rfl)] <;> rfl
      have c3 : cLe (eVar 6) (eVar 1) [.d R, .d (nI m), .k (encA al), .d (nI h), .d (encDeed h (.put v)), .d x, .d (optN (some e)), y] = some (decide (e ≤ m)) := cLe_nat rfl rfl
      by_cases hc : e ≤ m
      · rw [decide_eq_true hc] at c3
        have ht : totStep m al ⟨h, .put v, b, some e, tl⟩ = putA al h v := by
          unfold totStep counts
          simp only [if_pos hc]
        rw [ht, ← encA_put]
        exact sIf_t (cAnd_t c1 (cAnd_t c2 c3)) (sPutK_ok (i := 2) (a := (h : Int)) (y := .int v) (eIx_at (j := 2) rfl rfl rfl rfl) rfl rfl (by unfold encA; rw [List.length_map]; exact hl))
      · rw [decide_eq_false hc] at c3
        have ht : totStep m al ⟨h, .put v, b, some e, tl⟩ = al := by
          unfold totStep counts
          simp only [if_neg hc]
        rw [ht]
        exact sIf_f (cAnd_t c1 (cAnd_t c2 c3)) sNil_nx
theorem foldl_snoc {α β : Type} (f : β → α → β) (b : β) (l : List α) (a : α) : (l ++ [a]).foldl f b = f (l.foldl f b) a := by rw [List.foldl_append] <;> rfl
theorem take_snoc {α : Type} {l : List α} {j : Nat} {a : α} (h : l[j]? = some a) : l.take (j + 1) = l.take j ++ [a] := by
  rw [List.take_succ, h] <;> rfl
theorem tot_len (m : Nat) (rows : List SRow) : ∀ j, (totA (rows.take j) m).length ≤ j
  | 0 => Nat.le_refl _
  | j + 1 => by
    cases h : rows[j]? with
    | none =>
      rw [List.take_succ, h]
      show (totA (rows.take j ++ []) m).length ≤ _
      rw [List.append_nil]
      exact Nat.le_succ_of_le (tot_len m rows j)
    | some a =>
      rw [take_snoc h]
      unfold totA
      rw [foldl_snoc]
      have ih := tot_len m rows j
      unfold totA at ih
      unfold totStep
      split
      · exact Nat.le_trans (putA_len _ _ _) (Nat.succ_le_succ ih)
      · exact Nat.le_succ_of_le ih
theorem f_law_total {rows : List SRow} {m : Nat} (hl : rows.length ≤ 1000) : F_law_total [.d (.tup (rows.map encSRow)), .d (nI m)] = some (.d (.int (total rows m))) := by
  have hm : (rows.map encSRow).length = rows.length := List.length_map _
  obtain ⟨e', q1, q2⟩ := forM_inv (gd := gP [3, 4, 5, 6, 7]) (body := ltBody) (fun j env => ∃ v3 v4 v5 v6 v7, env = [.d (.tup (rows.map encSRow)), .d (nI m), .k (encA (totA (rows.take j) m)), v3, v4, v5, v6, v7]) (rows.map encSRow) 0 [.d (.tup (rows.map encSRow)), .d (nI m), .k [], .un, .un, .un, .un, .un] ⟨_, _, _, _, _, rfl⟩ (fun j d env hd iv => by
    rw [Nat.zero_add] at iv ⊢
    obtain ⟨v3, v4, v5, v6, v7, rfl⟩ := iv
    rw [List.getElem?_map] at hd
    obtain ⟨q, hq, rfl⟩ := Option.map_eq_some_iff.mp hd
    have hj := (List.getElem?_eq_some_iff.mp hq).1
    have hb := ltBody_ok (q := q) (m := m) (al := totA (rows.take j) m) (R := .tup (rows.map encSRow)) (x := nI q.b) (y := .d (encTold q.tl)) (Nat.le_trans (tot_len m rows j) (by omega))
    refine ⟨_, _, rfl, hb, .d (nI q.h), .d (encDeed q.h q.d), .d (nI q.b), .d (optN q.e), .d (encTold q.tl), ?_⟩
    rw [take_snoc hq]
    unfold totA
    rw [foldl_snoc])
  rw [Nat.zero_add, hm] at q2
  obtain ⟨v3, v4, v5, v6, v7, rfl⟩ := q2
  rw [List.take_length] at q1
  have s1 : sFor (sTup (eVar 0)) (gP [3, 4, 5, 6, 7]) ltBody [.d (.tup (rows.map encSRow)), .d (nI m), .k [], .un, .un, .un, .un, .un] = some (.nx [.d (.tup (rows.map encSRow)), .d (nI m), .k (encA (totA rows m)), v3, v4, v5, v6, v7]) := q1
  refine fnD_rt rfl (sSeq_nx (show sAsg 2 eNewK _ = some (.nx [.d (.tup (rows.map encSRow)), .d (nI m), .k [], .un, .un, .un, .un, .un]) from rfl) (sSeq_nx s1 (sRet_d ?_)))
  unfold eSumV
  rw [show kOf 2 [.d (.tup (rows.map encSRow)), .d (nI m), .k (encA (totA rows m)), v3, v4, v5, v6, v7] = some (encA (totA rows m)) from rfl, Option.bind_some, encA_ints] <;> rfl
end K98

/-! ## Rows -/
/-! The rows of a story over a run: plain facts. -/
namespace K98
section
variable {M : Man} {jobs : Nat → Items} {R : Nat → Rm} {w : Nat → Nat} {T : Nat}
theorem folRun_step {t : Nat} {d : Deed} {x : Option (Option (List Int))} {r' : Rm} (e : stepped M jobs (R t) (w t) = some (r', d, x)) : folRun M jobs R w (t + 1) = folStep (folRun M jobs R w t) t (w t) d x := by
  show (match stepped M jobs (R t) (w t) with
    | some (_, d, x) => folStep (folRun M jobs R w t) t (w t) d x
    | none => folRun M jobs R w t) = _
  rw [e]
theorem folBegin_other {s : Fol} {t h j : Nat} {d : Deed} (hj : j ≠ h) : (folBegin s t h d).uw j = s.uw j := by
  unfold folBegin
  cases s.uw h with
  | some i => rfl
  | none => show upd1 s.uw h _ j = _; unfold upd1; rw [if_neg hj]
theorem folStep_other {s : Fol} {t h j : Nat} {d : Deed} {x : Option (Option (List Int))} (hj : j ≠ h) : (folStep s t h d x).uw j = s.uw j := by
  cases x with
  | none => exact folBegin_other hj
  | some y => show upd1 _ h none j = _; unfold upd1; rw [if_neg hj]; exact folBegin_other hj
/-- a hand is under way iff it has read something -/
theorem Run.uw_iff (r : Run M jobs R w T) : ∀ t, t ≤ T → ∀ h, (folRun M jobs R w t).uw h = none ↔ rd R h t = []
  | 0, _, h => by
    unfold rd
    rw [r.zero]
    exact ⟨fun _ => rfl, fun _ => rfl⟩
  | t + 1, ht, h => by
    obtain ⟨d, x, e⟩ := r.step t ht
    obtain ⟨s, q⟩ := stepped_is e
    rw [folRun_step e]
    by_cases hw : h = w t
    · subst hw
      cases x with
      | none =>
        obtain ⟨i, hi⟩ := folBegin_at (folRun M jobs R w t) t (w t) d
        have e2 := (q.goes rfl).2
        constructor
        · intro z
          exact absurd ((show (folBegin (folRun M jobs R w t) t (w t) d).uw (w t) = none from z).symm.trans hi) (by simp)
        · intro z
          unfold rd at z
          rw [e2] at z
          simp at z
      | some y =>
        have e2 := (q.ends y rfl).2
        exact ⟨fun _ => e2, fun _ => by show upd1 _ (w t) none (w t) = none; unfold upd1; rw [if_pos rfl]⟩
    · rw [folStep_other hw, r.uw_iff t (Nat.le_of_lt ht) h]
      unfold rd
      rw [(q.other h hw).2]
end
end K98

/-! ## Rows2 -/
/-! The rows of a story over a run: the row of a deed under way. -/
namespace K98
section
variable {M : Man} {jobs : Nat → Items} {R : Nat → Rm} {w : Nat → Nat} {T : Nat}
structure OpenRow (jobs : Nat → Items) (R : Nat → Rm) (w : Nat → Nat) (rows : List SRow) (t h i : Nat) (d : Deed) (b : Nat) : Prop where
  row : rows[i]? = some ⟨h, d, b, none, none⟩
  lt : b < t
  hand : w b = h
  rd : rd R h b = []
  told : ∀ u, b ≤ u → u ≤ t → tl R h u = tl R h t
  deed : deedAt (jobs h) (tl R h t).length = some d
theorem folBegin_row {s : Fol} {t g j : Nat} {d : Deed} {q : SRow} (h : s.rows[j]? = some q) : (folBegin s t g d).rows[j]? = some q := by
  unfold folBegin
  cases s.uw g with
  | some i => exact h
  | none =>
    show (s.rows ++ [_])[j]? = _
    rw [List.getElem?_append_left (List.getElem?_eq_some_iff.mp h).1]
    exact h
theorem Run.open_ (r : Run M jobs R w T) : ∀ t, t ≤ T → ∀ h i, (folRun M jobs R w t).uw h = some i → ∃ d b, OpenRow jobs R w (folRun M jobs R w t).rows t h i d b
  | 0, _, h, i, e => by cases e
  | t + 1, ht, h, i, hi => by
    obtain ⟨d, x, e⟩ := r.step t ht
    obtain ⟨s, q⟩ := stepped_is e
    have ih := r.open_ t (Nat.le_of_lt ht)
    rw [folRun_step e] at hi ⊢
    by_cases hw : h = w t
    · subst hw
      cases x with
      | some y =>
        have z : upd1 (folBegin (folRun M jobs R w t) t (w t) d).uw (w t) none (w t) = some i := hi
        unfold upd1 at z
        rw [if_pos rfl] at z
        cases z
      | none =>
        have e1 : tl R (w t) (t + 1) = tl R (w t) t := (q.goes rfl).1
        cases hu : (folRun M jobs R w t).uw (w t) with
        | some j =>
          have hb : folStep (folRun M jobs R w t) t (w t) d none = folRun M jobs R w t := by
            show folBegin _ _ _ _ = _
            unfold folBegin
            rw [hu]
          rw [hb] at hi ⊢
          obtain ⟨d2, b, o⟩ := ih _ _ hi
          refine ⟨d2, b, o.row, Nat.lt_succ_of_lt o.lt, o.hand, o.rd, fun u h1 h2 => ?_, by rw [e1]; exact o.deed⟩
          rcases Nat.lt_or_ge u (t + 1) with z | z
          · rw [e1]; exact o.told u h1 (by omega)
          · rw [show u = t + 1 by omega]
        | none =>
          have hb : folStep (folRun M jobs R w t) t (w t) d none = ⟨(folRun M jobs R w t).rows ++ [⟨w t, d, t, none, none⟩], upd1 (folRun M jobs R w t).uw (w t) (some (folRun M jobs R w t).rows.length)⟩ := by
            show folBegin _ _ _ _ = _
            unfold folBegin
            rw [hu]
          rw [hb] at hi ⊢
          have z : upd1 (folRun M jobs R w t).uw (w t) (some (folRun M jobs R w t).rows.length) (w t) = some i := hi
          unfold upd1 at z
          rw [if_pos rfl] at z
          cases z
          refine ⟨d, t, by show (_ ++ [_])[_]? = _; rw [List.getElem?_append_right (Nat.le_refl _), Nat.sub_self] <;> rfl, Nat.lt_succ_self _, rfl, (r.uw_iff t (Nat.le_of_lt ht) _).mp hu, fun u h1 h2 => ?_, by rw [e1]; exact q.deed⟩
          rcases Nat.lt_or_ge u (t + 1) with z | z
          · rw [e1, show u = t by omega]
          · rw [show u = t + 1 by omega]
    · rw [folStep_other hw] at hi
      obtain ⟨d2, b, o⟩ := ih _ _ hi
      have e1 : tl R h (t + 1) = tl R h t := (q.other h hw).1
      refine ⟨d2, b, ?_, Nat.lt_succ_of_lt o.lt, o.hand, o.rd, fun u h1 h2 => ?_, by rw [e1]; exact o.deed⟩
      · have hb := folBegin_row (t := t) (g := w t) (d := d) o.row
        cases x with
        | none => exact hb
        | some y =>
          obtain ⟨j, hj⟩ := folBegin_at (folRun M jobs R w t) t (w t) d
          show ((folBegin (folRun M jobs R w t) t (w t) d).rows.set (((folBegin (folRun M jobs R w t) t (w t) d).uw (w t)).getD 0) _)[i]? = _
          rw [hj, Option.getD_some, List.getElem?_set_ne, hb]
          intro z
          subst z
          cases hu : (folRun M jobs R w t).uw (w t) with
          | some k =>
            have hk : (folBegin (folRun M jobs R w t) t (w t) d).uw (w t) = some k := by unfold folBegin; rw [hu]; exact hu
            cases hj.symm.trans hk
            obtain ⟨d3, b3, o3⟩ := ih _ _ hu
            have := o3.row.symm.trans o.row
            simp at this
            exact hw this.1.symm
          | none =>
            have hk : (folBegin (folRun M jobs R w t) t (w t) d).uw (w t) = some (folRun M jobs R w t).rows.length := by unfold folBegin; rw [hu]; simp [upd1]
            cases hj.symm.trans hk
            exact absurd (List.getElem?_eq_some_iff.mp o.row).1 (Nat.lt_irrefl _)
      · rcases Nat.lt_or_ge u (t + 1) with z | z
        · rw [e1]; exact o.told u h1 (by omega)
        · rw [show u = t + 1 by omega]
end
end K98

/-! ## Rows3 -/
/-! The rows of a story over a run: the begin of a deed under way is its first step. -/
namespace K98
section
variable {M : Man} {jobs : Nat → Items} {R : Nat → Rm} {w : Nat → Nat} {T : Nat}
theorem Run.grow1 (r : Run M jobs R w T) {t : Nat} (ht : t < T) (h : Nat) : (tl R h t).length ≤ (tl R h (t + 1)).length ∧ ((tl R h t).length = (tl R h (t + 1)).length → (rd R h t).length ≤ (rd R h (t + 1)).length) := by
  obtain ⟨d, x, e⟩ := r.step t ht
  obtain ⟨s, q⟩ := stepped_is e
  unfold tl rd
  by_cases hw : h = w t
  · subst hw
    cases x with
    | none =>
      obtain ⟨e1, e2⟩ := q.goes rfl
      rw [e1, e2, List.length_append]
      exact ⟨Nat.le_refl _, fun _ => Nat.le_add_right _ _⟩
    | some y =>
      obtain ⟨e1, e2⟩ := q.ends y rfl
      rw [e1, List.length_append]
      exact ⟨Nat.le_add_right _ _, fun z => by simp at z⟩
  · obtain ⟨e1, e2⟩ := q.other h hw
    rw [e1, e2]
    exact ⟨Nat.le_refl _, fun _ => Nat.le_refl _⟩
theorem Run.grow (r : Run M jobs R w T) (h u : Nat) : ∀ k, u + k ≤ T → (tl R h u).length ≤ (tl R h (u + k)).length ∧ ((tl R h u).length = (tl R h (u + k)).length → (rd R h u).length ≤ (rd R h (u + k)).length)
  | 0, _ => ⟨Nat.le_refl _, fun _ => Nat.le_refl _⟩
  | k + 1, hk => by
    obtain ⟨a1, a2⟩ := r.grow h u k (by omega)
    obtain ⟨b1, b2⟩ := r.grow1 (t := u + k) (by omega) h
    refine ⟨Nat.le_trans a1 b1, fun z => ?_⟩
    have z : (tl R h u).length = (tl R h (u + k + 1)).length := z
    exact Nat.le_trans (a2 (by omega)) (b2 (by omega))
theorem Run.begin_le (r : Run M jobs R w T) {rows : List SRow} {t h i b : Nat} {d : Deed} {ts : Nat → Nat} (ht : t ≤ T) (o : OpenRow jobs R w rows t h i d b) (I : Tr R w h t ts) (hr : 0 < (rd R h t).length) : b ≤ ts 0 := by
  rcases Nat.lt_or_ge (ts 0) b with z | z
  · exfalso
    obtain ⟨n1, n2⟩ := I.next 0 hr
    have hl : ts 0 + 1 + (b - (ts 0 + 1)) = b := by omega
    have hb := o.lt
    obtain ⟨_, g⟩ := r.grow h (ts 0 + 1) (b - (ts 0 + 1)) (by omega)
    rw [hl, n2, o.told b (Nat.le_refl _) (Nat.le_of_lt hb), n1, o.rd, List.length_take] at g
    have g := g rfl
    have g : min (0 + 1) (rd R h t).length ≤ 0 := g
    omega
  · exact z
end
end K98

/-! ## Rows4 -/
/-! The rows of a story over a run: an ended look tells a state of a moment between its begin and its end. -/
namespace K98
section
variable {M : Man} {jobs : Nat → Items} {R : Nat → Rm} {w : Nat → Nat} {T : Nat}
theorem folBegin_mem {s : Fol} {t g : Nat} {d : Deed} {q : SRow} (h : q ∈ (folBegin s t g d).rows) {e : Nat} (he : q.e = some e) : q ∈ s.rows := by
  unfold folBegin at h
  cases hu : s.uw g with
  | some i => rw [hu] at h; exact h
  | none =>
    rw [hu] at h
    rcases List.mem_append.mp (show q ∈ s.rows ++ [_] from h) with z | z
    · exact z
    · rw [List.mem_singleton] at z
      subst z
      cases he
theorem Run.look_rows (r : Run M jobs R w T) (rt : Right M) : ∀ t, t ≤ T → ∀ q, q ∈ (folRun M jobs R w t).rows → q.d = .look → ∀ e, q.e = some e → ∃ st, q.tl = some st ∧ e ≤ t ∧ ∃ s, q.b ≤ s ∧ s < e ∧ state M.n (R s) = st
  | 0, _, q, hq => by cases hq
  | t + 1, ht, q, hq => fun hd e he => by
    obtain ⟨d, x, ee⟩ := r.step t ht
    obtain ⟨s, S⟩ := stepped_is ee
    have ih : q ∈ (folRun M jobs R w t).rows → ∃ st, q.tl = some st ∧ e ≤ t + 1 ∧ ∃ s, q.b ≤ s ∧ s < e ∧ state M.n (R s) = st := fun z => by
      obtain ⟨st, a, b, c⟩ := r.look_rows rt t (Nat.le_of_lt ht) q z hd e he
      exact ⟨st, a, Nat.le_succ_of_le b, c⟩
    rw [folRun_step ee] at hq
    cases x with
    | none => exact ih (folBegin_mem hq he)
    | some y =>
      rcases List.mem_or_eq_of_mem_set (show q ∈ (folBegin (folRun M jobs R w t) t (w t) d).rows.set _ _ from hq) with z | z
      · exact ih (folBegin_mem z he)
      · subst z
        have hd : d = .look := hd
        subst hd
        cases he
        have hs : s = lookOf M.k M.n (w t) (rd R (w t) t) := S.stp
        subst hs
        obtain ⟨ts, I⟩ := r.trace (w t) t (Nat.le_of_lt ht)
        obtain ⟨st, rfl⟩ : ∃ st, y = some st := by
          have z := S.end_
          unfold ended at z
          split at z
          · rename_i z2; exact absurd z2 (lookOf_not _ _ _ _ _)
          · split at z
            · cases z; exact ⟨_, rfl⟩
            · cases z
        obtain ⟨m, m1, m2, m3⟩ := r.moment rt ht I S
        refine ⟨st, rfl, Nat.le_refl _, m, Nat.le_trans ?_ m1, Nat.lt_succ_of_le m2, m3⟩
        show (((folBegin (folRun M jobs R w t) t (w t) .look).rows[((folBegin (folRun M jobs R w t) t (w t) .look).uw (w t)).getD 0]?).map SRow.b).getD 0 ≤ _
        cases hu : (folRun M jobs R w t).uw (w t) with
        | some k =>
          have hb : folBegin (folRun M jobs R w t) t (w t) .look = folRun M jobs R w t := by unfold folBegin; rw [hu]
          obtain ⟨d2, b, o⟩ := r.open_ t (Nat.le_of_lt ht) _ _ hu
          have hr : 0 < (rd R (w t) t).length := by
            rcases Nat.eq_zero_or_pos (rd R (w t) t).length with z | z
            · have := (r.uw_iff t (Nat.le_of_lt ht) (w t)).mpr (List.length_eq_zero_iff.mp z)
              rw [hu] at this
              cases this
            · exact z
          rw [hb, hu, Option.getD_some, o.row, if_pos hr]
          exact r.begin_le (Nat.le_of_lt ht) o I hr
        | none =>
          have hb : folBegin (folRun M jobs R w t) t (w t) .look = ⟨(folRun M jobs R w t).rows ++ [⟨w t, .look, t, none, none⟩], upd1 (folRun M jobs R w t).uw (w t) (some (folRun M jobs R w t).rows.length)⟩ := by unfold folBegin; rw [hu]
          have hr : rd R (w t) t = [] := (r.uw_iff t (Nat.le_of_lt ht) (w t)).mp hu
          rw [hb, hr]
          simp [upd1]
end
end K98

/-! ## Rows5 -/
/-! Association lists by hands, and their sums. -/
namespace K98
def lookA (al : List (Nat × Int)) (h : Nat) : Option Int := (al.find? fun kv => decide (kv.1 = h)).map (·.2)
/-- the sum of the values by hand -/
def sumA (al : List (Nat × Int)) (n : Nat) : Int := ((List.range n).map fun h => (lookA al h).getD 0).sum
theorem lookA_cons {j h : Nat} {v : Int} {r : List (Nat × Int)} : lookA ((j, v) :: r) h = if j = h then some v else lookA r h := by
  unfold lookA
  by_cases e : j = h
  · rw [if_pos e, List.find?_cons_of_pos (by simpa using e)] <;> rfl
  · rw [if_neg e, List.find?_cons_of_neg (by simpa using e)]
theorem lookA_none {h : Nat} : ∀ {al : List (Nat × Int)}, h ∉ al.map (·.1) → lookA al h = none
  | [], _ => rfl
  | (j, v) :: r, e => by
    rw [List.map_cons, List.mem_cons, not_or] at e
    rw [lookA_cons, if_neg (fun z => e.1 z.symm), lookA_none e.2]
theorem sum_upd (f g : Nat → Int) (j : Nat) (v : Int) (hf : ∀ h, f h = if j = h then v else g h) (hg : g j = 0) : ∀ n, ((List.range n).map f).sum = (if j < n then v else 0) + ((List.range n).map g).sum
  | 0 => by simp
  | n + 1 => by
    rw [List.range_succ, List.map_append, List.map_append, List.sum_append, List.sum_append, sum_upd f g j v hf hg n]
    simp only [List.map_cons, List.map_nil, List.sum_cons, List.sum_nil]
    have h1 := hf n
    by_cases e : j = n
    · subst e
      rw [if_pos rfl] at h1
      rw [h1, hg, if_neg (Nat.lt_irrefl _), if_pos (Nat.lt_succ_self _)]
      omega
    · rw [if_neg e] at h1
      rw [h1]
      by_cases e2 : j < n
      · rw [if_pos e2, if_pos (Nat.lt_succ_of_lt e2)]; omega
      · rw [if_neg e2, if_neg (by omega)]; omega
theorem sumA_eq {n : Nat} : ∀ {al : List (Nat × Int)}, (al.map (·.1)).Nodup → (∀ kv, kv ∈ al → kv.1 < n) → (al.map (·.2)).sum = sumA al n
  | [], _, _ => by
    unfold sumA
    induction n with
    | zero => rfl
    | succ n ih => rw [List.range_succ, List.map_append, List.sum_append, ← ih (fun _ h => by cases h)] <;> rfl
  | (j, v) :: r, nd, hl => by
    rw [List.map_cons, List.nodup_cons] at nd
    have ih := sumA_eq (n := n) (al := r) nd.2 fun kv h => hl kv (List.mem_cons_of_mem _ h)
    have hj : j < n := hl (j, v) List.mem_cons_self
    rw [List.map_cons, List.sum_cons, ih]
    unfold sumA
    have q := sum_upd (fun h => (lookA ((j, v) :: r) h).getD 0) (fun h => (lookA r h).getD 0) j v (fun h => by
      show (lookA ((j, v) :: r) h).getD 0 = _
      rw [lookA_cons]
      split <;> rfl) (by
      show (lookA r j).getD 0 = 0
      rw [lookA_none nd.1] <;> rfl) n
    rw [if_pos hj] at q
    exact q.symm
end K98

/-! ## Rows6 -/
/-! Putting into an association list by hands. -/
namespace K98
theorem any_iff {h : Nat} {al : List (Nat × Int)} : (al.any fun kv => decide (kv.1 = h)) = true ↔ h ∈ al.map (·.1) := by
  rw [List.any_eq_true, List.mem_map]
  constructor
  · rintro ⟨kv, a, b⟩; exact ⟨kv, a, of_decide_eq_true b⟩
  · rintro ⟨kv, a, b⟩; exact ⟨kv, a, decide_eq_true b⟩
theorem map_keys (h : Nat) (v : Int) (al : List (Nat × Int)) : (al.map fun kv => if kv.1 = h then (kv.1, v) else kv).map (·.1) = al.map (·.1) := by
  rw [List.map_map]
  refine List.map_congr_left fun kv _ => ?_
  show (if kv.1 = h then (kv.1, v) else kv).1 = kv.1
  split <;> rfl
theorem putA_nodup {al : List (Nat × Int)} {h : Nat} {v : Int} (nd : (al.map (·.1)).Nodup) : ((putA al h v).map (·.1)).Nodup := by
  unfold putA
  split
  · rw [map_keys]; exact nd
  · rename_i e
    rw [any_iff] at e
    rw [List.map_append, List.nodup_append]
    refine ⟨nd, by simp, fun a ha b hb => ?_⟩
    have hb : b = h := by simpa using hb
    subst hb
    intro z
    subst z
    exact e ha
theorem putA_lt {al : List (Nat × Int)} {h n : Nat} {v : Int} (hl : ∀ kv, kv ∈ al → kv.1 < n) (hh : h < n) : ∀ kv, kv ∈ putA al h v → kv.1 < n := by
  unfold putA
  split
  · intro kv hk
    obtain ⟨k2, a, b⟩ := List.mem_map.mp hk
    have := hl k2 a
    subst b
    split <;> exact this
  · intro kv hk
    rcases List.mem_append.mp hk with z | z
    · exact hl kv z
    · rw [List.mem_singleton] at z
      subst z
      exact hh
theorem look_map (h j : Nat) (v : Int) : ∀ al : List (Nat × Int), lookA (al.map fun kv => if kv.1 = h then (kv.1, v) else kv) j = if j = h then (lookA al h).map fun _ => v else lookA al j
  | [] => by show none = _; split <;> rfl
  | (k, u) :: r => by
    rw [List.map_cons]
    by_cases e : k = h
    · subst e
      rw [show (if ((k, u) : Nat × Int).1 = k then (((k, u) : Nat × Int).1, v) else (k, u)) = (k, v) from if_pos rfl, lookA_cons, lookA_cons, lookA_cons, look_map k j v r]
      by_cases e2 : k = j
      · subst e2; simp
      · rw [if_neg e2, if_neg (fun z => e2 z.symm), if_neg (fun z => e2 z.symm), if_neg e2]
    · rw [show (if ((k, u) : Nat × Int).1 = h then (((k, u) : Nat × Int).1, v) else (k, u)) = (k, u) from if_neg e, lookA_cons, lookA_cons, lookA_cons, look_map h j v r, if_neg e]
      by_cases e2 : k = j
      · subst e2; rw [if_pos rfl, if_neg e, if_pos rfl]
      · rw [if_neg e2, if_neg e2]
theorem look_app {h j : Nat} {v : Int} : ∀ {al : List (Nat × Int)}, lookA (al ++ [(h, v)]) j = (lookA al j).or (if h = j then some v else none)
  | [] => by rw [List.nil_append, lookA_cons] <;> rfl
  | (k, u) :: r => by
    rw [List.cons_append, lookA_cons, lookA_cons, look_app]
    by_cases e : k = j
    · rw [if_pos e, if_pos e] <;> rfl
    · rw [if_neg e, if_neg e]
theorem lookA_some {h : Nat} : ∀ {al : List (Nat × Int)}, h ∈ al.map (·.1) → ∃ v, lookA al h = some v
  | [], e => by cases e
  | (j, v) :: r, e => by
    rw [lookA_cons]
    by_cases z : j = h
    · exact ⟨v, if_pos z⟩
    · rw [if_neg z]
      rw [List.map_cons, List.mem_cons] at e
      exact lookA_some (e.resolve_left fun y => z y.symm)
theorem look_put (al : List (Nat × Int)) (h j : Nat) (v : Int) : lookA (putA al h v) j = if j = h then some v else lookA al j := by
  unfold putA
  split
  · rename_i e
    obtain ⟨u, hu⟩ := lookA_some (any_iff.mp e)
    rw [look_map, hu] <;> rfl
  · rename_i e
    rw [any_iff] at e
    rw [look_app]
    by_cases z : j = h
    · subst z; simp [lookA_none e]
    · rw [if_neg z, if_neg (fun y => z y.symm)]
      cases lookA al j <;> rfl
end K98

/-! ## Rows7 -/
/-! What a hand's puts come to in the total. -/
namespace K98
/-- the last value among the rows of a hand that count -/
def lastV (m h : Nat) (rows : List SRow) : Option Int := (rows.filterMap fun q => if q.h = h then counts m q else none).getLast?
theorem getLast?_snoc_or {α : Type} (l : List α) (o : Option α) : (l ++ o.toList).getLast? = o.or l.getLast? := by
  cases o with
  | none => simp
  | some a => simp
theorem lastV_snoc (m h : Nat) (rows : List SRow) (q : SRow) : lastV m h (rows ++ [q]) = (if q.h = h then counts m q else none).or (lastV m h rows) := by
  unfold lastV
  rw [List.filterMap_append]
  rw [show [q].filterMap (fun q => if q.h = h then counts m q else none) = (if q.h = h then counts m q else none).toList by
    cases e : (if q.h = h then counts m q else none) <;> simp [e]]
  exact getLast?_snoc_or _ _
theorem tot_snoc (m : Nat) (rows : List SRow) (q : SRow) : totA (rows ++ [q]) m = totStep m (totA rows m) q := by
  unfold totA
  exact foldl_snoc _ _ _ _
theorem look_tot (m h : Nat) : ∀ (k : Nat) (rows : List SRow), rows.length = k → lookA (totA rows m) h = lastV m h rows
  | 0, rows, e => by
    cases List.length_eq_zero_iff.mp e
    rfl
  | k + 1, rows, e => by
    obtain ⟨r, q, rfl⟩ : ∃ r q, rows = r ++ [q] := by
      have hne : rows ≠ [] := fun z => by subst z; cases e
      exact ⟨rows.dropLast, rows.getLast hne, (List.dropLast_concat_getLast hne).symm⟩
    have e1 : r.length = k := by rw [List.length_append] at e; exact Nat.succ.inj e
    rw [tot_snoc, lastV_snoc, ← look_tot m h k r e1]
    unfold totStep
    cases c : counts m q with
    | none => simp
    | some v =>
      show lookA (putA (totA r m) q.h v) h = _
      rw [look_put]
      by_cases z : h = q.h
      · rw [if_pos z, if_pos z.symm] <;> rfl
      · rw [if_neg z, if_neg (fun y => z y.symm)] <;> rfl
end K98

/-! ## LSpec3 -/
/-! What the drawn weaving comes to. -/
namespace K98
open PySem PySem.Spec PyProof.Rows L2
/-! ### in a list of ints -/
theorem sh_ints : ∀ l : List Int, PyData.canLayAll0 (pds (l.map D.int)) = true ∧ PyData.depthAll (pds (l.map D.int)) = 0
  | [] => ⟨rfl, rfl⟩
  | a :: r => by
    obtain ⟨h1, h2⟩ := sh_ints r
    refine ⟨?_, ?_⟩
    · show (PyData.canLay0 (.int _) && PyData.canLayAll0 (pds (r.map D.int))) = true
      rw [h1] <;> rfl
    · show max (PyData.depth (.int _)) (PyData.depthAll (pds (r.map D.int))) = 0
      rw [h2] <;> rfl
theorem sh_intL (l : List Int) : SeqAt.shaped (.list (pds (l.map D.int))) = true := by
  obtain ⟨h1, h2⟩ := sh_ints l
  show (PyData.canLayAll0 (pds (l.map D.int)) && decide (PyData.depthAll (pds (l.map D.int)) + 1 ≤ 64)) = true
  rw [h1, h2] <;> rfl
theorem any_ints (a : Int) : ∀ l : List Int, ((pds (l.map D.int)).any fun z => PyData.eqv z (.int a)) = decide (a ∈ l)
  | [] => by simp [pds]
  | b :: r => by
    show ((b == a) || (pds (r.map D.int)).any _) = _
    rw [any_ints a r]
    by_cases h : b = a
    · subst h; simp
    · have : (b == a) = false := by simpa using h
      rw [this, Bool.false_or, decide_eq_decide, List.mem_cons]
      exact ⟨fun z => .inr z, fun z => z.resolve_left fun y => h y.symm⟩
theorem gInL_ints {k : Bool} {a : Int} {v : Vl} {l : List Int} (h : lstOf v = some (l.map D.int)) : gInL k (.d (.int a)) v = some (decide (a ∈ l) == k) := by
  unfold gInL listOf
  rw [h, show deepOf (.d (.int a)) = some (.int a) from rfl]
  show (if SeqAt.shaped (.int a) = true ∧ SeqAt.shaped (.list (pds (l.map D.int))) = true then some (((pds (l.map D.int)).any fun z => PyData.eqv z (.int a)) == k) else none) = _
  rw [if_pos ⟨rfl, sh_intL l⟩, any_ints]
theorem map_nI (l : List Nat) : l.map nI = (l.map fun (j : Nat) => (j : Int)).map D.int := by
  rw [List.map_map] <;> rfl
theorem mem_cast {h : Nat} {l : List Nat} : ((h : Int) ∈ l.map fun (j : Nat) => (j : Int)) ↔ h ∈ l := by
  rw [List.mem_map]
  constructor
  · rintro ⟨a, ha, e⟩
    have : a = h := by omega
    exact this ▸ ha
  · intro hh
    exact ⟨h, hh, rfl⟩
theorem cInL_nat {fa fb : List Vl → Option Vl} {env : List Vl} {h : Nat} {v : Vl} {l : List Nat} (h1 : fa env = some (.d (nI h))) (h2 : fb env = some v) (h3 : lstOf v = some (l.map nI)) : cInL fa fb env = some (decide (h ∈ l)) := by
  unfold cInL
  rw [t2_ok h1 h2]
  rw [map_nI] at h3
  rw [show (nI h) = .int (h : Int) from rfl, gInL_ints h3, beq_true]
  exact congrArg some (decide_eq_decide.mpr mem_cast)
theorem cNe_u {fa : List Vl → Option Vl} {env : List Vl} {ns : List Nat} (h : fa env = some (.u (ns.map nI))) : cNe fa (eLst aNil) env = some (decide (ns ≠ [])) := by
  unfold cNe
  rw [t2_ok h (show eLst aNil env = some (.o []) from rfl)]
  unfold gNe
  have hs := sh_intL (ns.map fun (j : Nat) => (j : Int))
  rw [← map_nI] at hs
  rw [show deepOf (.u (ns.map nI)) = some (.list (pds (ns.map nI))) from rfl, show deepOf (.o []) = some (.list []) from rfl, Option.bind_some, Option.bind_some, if_pos ⟨hs, rfl⟩]
  cases ns with
  | nil => rfl
  | cons a r => rfl
/-! ### one step more -/
def extR (R : Nat → Rm) (T : Nat) (r2 : Rm) : Nat → Rm := fun t => if t ≤ T then R t else r2
def extW (w : Nat → Nat) (T h : Nat) : Nat → Nat := fun t => if t < T then w t else h
section
variable {M : Man} {jobs : Nat → Items} {R : Nat → Rm} {w : Nat → Nat} {T h : Nat} {r2 : Rm}
theorem extR_le {t : Nat} (ht : t ≤ T) : extR R T r2 t = R t := if_pos ht
theorem extR_gt : extR R T r2 (T + 1) = r2 := if_neg (by omega)
theorem extW_lt {t : Nat} (ht : t < T) : extW w T h t = w t := if_pos ht
theorem extW_at : extW w T h T = h := if_neg (by omega)
theorem Run.ext (r : Run M jobs R w T) (hh : h < M.n) {d : Deed} {x : Option (Option (List Int))} (e : stepped M jobs (R T) h = some (r2, d, x)) : Run M jobs (extR R T r2) (extW w T h) (T + 1) := by
  refine ⟨by rw [extR_le (Nat.zero_le _)]; exact r.zero, fun t ht => ?_, fun t ht => ?_⟩
  · rcases Nat.lt_or_ge t T with z | z
    · rw [extW_lt z]; exact r.hand t z
    · rw [show t = T by omega, extW_at]; exact hh
  · rcases Nat.lt_or_ge t T with z | z
    · rw [extW_lt z, extR_le (by omega), extR_le (by omega)]
      exact r.step t z
    · have : t = T := by omega
      subst this
      rw [extW_at, extR_le (Nat.le_refl _), extR_gt]
      exact ⟨d, x, e⟩
theorem weavD_ext : weavD (extW w T h) (T + 1) = weavD w T ++ [nI h] := by
  unfold weavD
  rw [List.range_succ, List.map_append, List.map_cons, List.map_nil, extW_at]
  congr 1
  exact List.map_congr_left fun t ht => by rw [extW_lt (List.mem_range.mp ht)]
theorem weavD_len : (weavD w T).length = T := by unfold weavD; rw [List.length_map, List.length_range]
end
/-! ### for -/
theorem forB_inv {i : Nat} {body : RB} (Inv : Nat → List Vl → List Int → Prop) : ∀ (n k : Nat) (env : List Vl) (hd : List Int), Inv k env hd →
    (∀ j env hd, k ≤ j → j < k + n → Inv j env hd → ∃ e h, body (env.set i (.d (.int (j : Nat)))) hd = some (.nx e h) ∧ Inv (j + 1) e h) → ∃ e h, forB i body n k env hd = some (.nx e h) ∧ Inv (k + n) e h
  | 0, k, env, hd, h, _ => ⟨env, hd, rfl, h⟩
  | n + 1, k, env, hd, h, hs => by
    obtain ⟨e1, h1, q1, q2⟩ := hs k env hd (Nat.le_refl _) (by omega) h
    obtain ⟨e2, h2, q3, q4⟩ := forB_inv Inv n (k + 1) e1 h1 q2 fun j env hd h1 h2 => hs j env hd (by omega) (by omega)
    refine ⟨e2, h2, ?_, by rw [show k + (n + 1) = k + 1 + n by omega]; exact q4⟩
    unfold forB
    rw [q1]
    exact q3
theorem rngN_eq (j : Int) : rngN [.d (.int j)] = if lims j = true then some j.toNat else none := by
  unfold rngN
  simp only [intOf, Option.bind_some]
theorem rngN_ok2 {n : Nat} (hn : n ≤ 1000) : rngN [.d (nI n)] = some n := by
  unfold nI
  rw [rngN_eq, if_pos (lims_nat hn), Int.toNat_natCast]
theorem bFor_ok {i n : Nat} {src : RMx} {body : RB} {env : List Vl} {hd h1 : List Int} {r : OutM} (hn : n ≤ 1000) (e1 : src env hd = some ([.d (nI n)], h1)) (e2 : forB i body n 0 env h1 = some r) : bFor i src body env hd = some r := by
  have e3 : ∀ (o : Option (List Vl × List Int)), o = some ([.d (nI n)], h1) → (o.bind fun r => (rngN r.1).bind fun n => forB i body n 0 env r.2) = (rngN [.d (nI n)]).bind fun n => forB i body n 0 env h1 := fun o ho => by
    subst ho
    exact Option.bind_some _ _
  unfold bFor
  rw [e3 _ e1, rngN_ok2 hn, Option.bind_some]
  exact e2
/-- who can step -/
def mays (M : Man) (jobs : Nat → Items) (r : Rm) : List Nat := (List.range M.n).filter fun h => (deedAt (jobs h) (r.row h).told.length).isSome
theorem mays_deed {M : Man} {jobs : Nat → Items} {r : Rm} {h : Nat} (hm : h ∈ mays M jobs r) : h < M.n ∧ ∃ d, deedAt (jobs h) (r.row h).told.length = some d := by
  obtain ⟨h1, h2⟩ := List.mem_filter.mp hm
  exact ⟨List.mem_range.mp h1, Option.isSome_iff_exists.mp h2⟩
structure Wv (M : Man) (jobs : Nat → Items) (p : Addr) (T : Nat) (R : Nat → Rm) (w : Nat → Nat) (kvs : List (Key × Option D)) (v7 v8 v9 v10 : Vl) (env : List Vl) : Prop where
  run : Run M jobs R w T
  env : env = [.a p, .d (encMan M), .d (encJobs M.n jobs), .d (.int 160), .d (encRoom M.k M.n (R T)), .o (weavD w T), .k kvs, v7, v8, v9, v10]
theorem kd_of {M : Man} (h : Right M) : KdOk M.k := by
  cases h with
  | once => exact trivial
  | twice n _ _ => exact (by decide : 0 < 1000)
  | twice2 => exact (by decide : 2 < 1000)
  | handed n mv _ _ _ _ => exact (by decide : 0 < 1000)
  | handed3 mv _ _ => exact (by decide : 3 < 1000)
  | signs00 => exact ⟨by decide, by decide⟩
  | signs01 mv _ _ => exact ⟨by decide, by decide⟩
  | signs n mv _ _ _ _ => exact ⟨by decide, by decide⟩
section
variable {M : Man} {jobs : Nat → Items} {p : Addr}
theorem may_ok {R : Nat → Rm} {w : Nat → Nat} {T : Nat} (rt : Right M) (hj : ∀ i, i < M.n → (jobs i).length ≤ 900) (r : Run M jobs R w T) {fm fj fr : List Vl → Option Vl} {env : List Vl} (h1 : fm env = some (.d (encMan M))) (h2 : fj env = some (.d (encJobs M.n jobs))) (h3 : fr env = some (.d (encRoom M.k M.n (R T)))) :
    eCall 3 F_may_step (aCons fm (aCons fj (aCons fr aNil))) env = some (.o ((mays M jobs (R T)).map nI)) := by
  have ok := rm_run rt.n1 r T (Nat.le_refl _)
  exact eCall_ok (n := 3) (v := .o ((mays M jobs (R T)).map nI)) (vals := [.d (encMan M), .d (encJobs M.n jobs), .d (encRoom M.k M.n (R T))]) (aCons_ok h1 (aCons_ok h2 (aCons_ok h3 aNil_ok))) (f_may (k := M.k) (n := M.n) rt.n5 (fun h hh => (ok.row h hh).told) hj)
def inB : RB := lft (sIf (cInL (eVar 9) (eCall 3 F_may_step (aCons (eVar 1) (aCons (eVar 2) (aCons (eVar 4) aNil))))) (sSeq (sAsg 4 (eCall 4 F_stepped (aCons (eVar 1) (aCons (eVar 2) (aCons (eVar 4) (aCons (eVar 9) aNil)))))) (sApp 5 (aCons (eVar 9) aNil))) sNil)
theorem inner_ok {T0 : Nat} {hd : List Int} {h : Nat} {kvs : List (Key × Option D)} {v7 v8 v10 : Vl} (rt : Right M) (hj : ∀ i, i < M.n → (jobs i).length ≤ 900) (hT : T0 ≤ 160) (n7 : noL v7 = true) (n8 : noL v8 = true) {R : Nat → Rm} {w : Nat → Nat} {env : List Vl} (W : Wv M jobs p T0 R w kvs v7 v8 (.d (nI h)) v10 env) {n : Nat} (hn : n ≤ 30) :
    ∃ T R' w' e v10', forB 10 inB n 0 env hd = some (.nx e hd) ∧ Wv M jobs p T R' w' kvs v7 v8 (.d (nI h)) v10' e ∧ T ≤ T0 + n ∧ (noL v10 = true → noL v10' = true) := by
  obtain ⟨e, h2, q1, ⟨T, R', w', v10', W', hT', hv, rfl⟩⟩ := forB_inv (i := 10) (body := inB) (fun k env hd' => ∃ T R w v10', Wv M jobs p T R w kvs v7 v8 (.d (nI h)) v10' env ∧ T ≤ T0 + k ∧ (noL v10 = true → noL v10' = true) ∧ hd' = hd) n 0 env hd ⟨T0, R, w, v10, W, Nat.le_refl _, id, rfl⟩ (fun k env hd' _ hk2 h => by
    obtain ⟨T, R, w, v10', ⟨run, rfl⟩, hT', hv, rfl⟩ := h
    have may := may_ok (fm := eVar 1) (fj := eVar 2) (fr := eVar 4) (env := [.a p, .d (encMan M), .d (encJobs M.n jobs), .d (.int 160), .d (encRoom M.k M.n (R T)), .o (weavD w T), .k kvs, v7, v8, .d (nI h), .d (nI k)]) rt hj run rfl rfl rfl
    have c := cInL_nat (fa := eVar 9) (h := h) rfl may rfl
    by_cases hm : h ∈ mays M jobs (R T)
    · rw [decide_eq_true hm] at c
      obtain ⟨hh, d, hd2⟩ := mays_deed hm
      have so := step_of (k := M.k) (jobs := jobs) rt.n5 hh (kd_of rt) (by omega) hj (rm_run rt.n1 run T (Nat.le_refl _)) hd2
      obtain ⟨r2, x, e1, e2⟩ := f_stepped so
      have s1 : sAsg 4 (eCall 4 F_stepped (aCons (eVar 1) (aCons (eVar 2) (aCons (eVar 4) (aCons (eVar 9) aNil))))) [.a p, .d (encMan M), .d (encJobs M.n jobs), .d (.int 160), .d (encRoom M.k M.n (R T)), .o (weavD w T), .k kvs, v7, v8, .d (nI h), .d (nI k)] = some (.nx [.a p, .d (encMan M), .d (encJobs M.n jobs), .d (.int 160), .d (encRoom M.k M.n r2), .o (weavD w T), .k kvs, v7, v8, .d (nI h), .d (nI k)]) :=
        sAsg_d (eCall_ok (n := 4) (v := .d (encRoom M.k M.n r2)) (vals := [.d (encMan M), .d (encJobs M.n jobs), .d (encRoom M.k M.n (R T)), .d (nI h)]) rfl e2)
      have s2 : sApp 5 (aCons (eVar 9) aNil) [.a p, .d (encMan M), .d (encJobs M.n jobs), .d (.int 160), .d (encRoom M.k M.n r2), .o (weavD w T), .k kvs, v7, v8, .d (nI h), .d (nI k)] = some (.nx [.a p, .d (encMan M), .d (encJobs M.n jobs), .d (.int 160), .d (encRoom M.k M.n r2), .o (weavD w T ++ [nI h]), .k kvs, v7, v8, .d (nI h), .d (nI k)]) :=
        sApp_ok rfl (aCons_ok rfl aNil_ok) (by rw [weavD_len]; omega)
      refine ⟨_, _, lft_nx (sIf_t c (sSeq_nx s1 s2)) ?_, T + 1, extR R T r2, extW w T h, .d (nI k), ⟨run.ext hh e1, by rw [extR_gt, weavD_ext]⟩, by omega, fun _ => rfl, rfl⟩
      show (true && (true && (true && (true && (true && (true && (true && (noL v7 && (noL v8 && (true && (true && true))))))))))) = true
      rw [n7, n8] <;> rfl
    · rw [decide_eq_false hm] at c
      refine ⟨_, _, lft_nx (sIf_f c sNil_nx) ?_, T, R, w, .d (nI k), ⟨run, rfl⟩, by omega, fun _ => rfl, rfl⟩
      show (true && (true && (true && (true && (true && (true && (true && (noL v7 && (noL v8 && (true && (true && true))))))))))) = true
      rw [n7, n8] <;> rfl)
  rw [Nat.zero_add] at hT'
  exact ⟨T, R', w', e, v10', q1, W', hT', hv⟩
end
end K98

/-! ## LSpec4 -/
/-! What the drawn weaving comes to (2). -/
namespace K98
open PySem PySem.Spec PyProof.Rows L2
theorem sPutT_ok {i : Nat} {fi : List Vl → Option Vl} {env : List Vl} {a : Int} {kvs : List (Key × Option D)} (h2 : fi env = some (.d (.int a))) (h3 : env[i]? = some (.k kvs)) (h4 : kvs.length ≤ 1000) : sPutT i fi env = some (.nx (env.set i (.k (putO kvs (.inl a) none)))) := by
  unfold sPutT kOf
  rw [h2, h3]
  show (if kvs.length ≤ 1000 then some (Out.nx (env.set i (.k (putO kvs (.inl a) none)))) else none) = _
  rw [if_pos h4]
theorem putO_len (kvs : List (Key × Option D)) (k : Key) (o : Option D) : (putO kvs k o).length ≤ kvs.length + 1 := by
  unfold putO
  split
  · rw [List.length_map]; omega
  · rw [List.length_append]; exact Nat.le_refl _
section
variable {M : Man} {jobs : Nat → Items} {p : Addr}
def outB (p : Addr) : RB := bSeq (lft (sAsg 8 (eLc (sLst (eCall 3 F_may_step (aCons (eVar 1) (aCons (eVar 2) (aCons (eVar 4) aNil))))) (gN 9) (cNotK 6 (eVar 9)) (eVar 9) [9]))) (bIf (mTD (cAnd (cNe (eVar 8) (eLst aNil)) (cLt (eB1 gLen (aCons (eVar 5) aNil)) (eVar 3)))) (bSeq (bAsg 9 (mCall p 0 1 F_law_pick (xD (aCons (eVar 8) aNil)))) (bSeq (bIf (mT2 gEq (mCall p 0 1 F_law_take (xD (aCons (eD (.int 40)) aNil))) (mD (eD (.int 0)))) (lft (sPutT 6 (eVar 9))) bNil) (bFor 10 (xM (mCall p 0 1 F_law_pick (xD (aCons (eLst (aCons (eD (.int 1)) (aCons (eD (.int 1)) (aCons (eD (.int 2)) (aCons (eD (.int 3)) (aCons (eD (.int 5)) (aCons (eD (.int 9)) (aCons (eD (.int 30)) aNil)))))))) aNil)))) inB))) bNil)
structure Wo (M : Man) (jobs : Nat → Items) (p : Addr) (B : Int) (t : Nat) (env : List Vl) (hd : List Int) : Prop where
  ex : ∃ T R w kvs v7 v8 v9 v10, Wv M jobs p T R w kvs v7 v8 v9 v10 env ∧ T ≤ 190 ∧ kvs.length ≤ t ∧ noL v7 = true ∧ noL v8 = true ∧ noL v9 = true ∧ noL v10 = true
  hd : HdOk (B + 3 * t) hd
theorem outer_ok {B : Int} (hB : B ≤ 800000) {t : Nat} (ht : t < 160) (rt : Right M) (hj : ∀ i, i < M.n → (jobs i).length ≤ 900) {env : List Vl} {hd : List Int} (W : Wo M jobs p B t env hd) : ∃ e h, outB p (env.set 7 (.d (.int (t : Nat)))) hd = some (.nx e h) ∧ Wo M jobs p B (t + 1) e h := by
  obtain ⟨⟨T, R, w, kvs, v7, v8, v9, v10, ⟨run, rfl⟩, hT, hk, n7, n8, n9, n10⟩, ok⟩ := W
  let ns : List Nat := (mays M jobs (R T)).filter fun h => !(valO kvs (.inl (h : Int))).isSome
  have lc : eLc (sLst (eCall 3 F_may_step (aCons (eVar 1) (aCons (eVar 2) (aCons (eVar 4) aNil))))) (gN 9) (cNotK 6 (eVar 9)) (eVar 9) [9] [.a p, .d (encMan M), .d (encJobs M.n jobs), .d (.int 160), .d (encRoom M.k M.n (R T)), .o (weavD w T), .k kvs, .d (nI t), v8, v9, v10] = some (.o (ns.map nI)) := by
    refine lc_all (l := mays M jobs (R T)) nI (fun h => !(valO kvs (.inl (h : Int))).isSome) nI ?_ ?_ fun a ha => ⟨_, rfl, cNotK_ok rfl rfl, fun _ => rfl⟩
    · unfold sLst
      rw [may_ok (fm := eVar 1) (fj := eVar 2) (fr := eVar 4) rt hj run rfl rfl rfl] <;> rfl
    · have := List.length_filter_le (fun h => (deedAt (jobs h) ((R T).row h).told.length).isSome) (List.range M.n)
      rw [List.length_range] at this
      have := rt.n5
      unfold mays
      omega
  have s1 : lft (sAsg 8 (eLc (sLst (eCall 3 F_may_step (aCons (eVar 1) (aCons (eVar 2) (aCons (eVar 4) aNil))))) (gN 9) (cNotK 6 (eVar 9)) (eVar 9) [9])) [.a p, .d (encMan M), .d (encJobs M.n jobs), .d (.int 160), .d (encRoom M.k M.n (R T)), .o (weavD w T), .k kvs, .d (nI t), v8, v9, v10] hd = some (.nx [.a p, .d (encMan M), .d (encJobs M.n jobs), .d (.int 160), .d (encRoom M.k M.n (R T)), .o (weavD w T), .k kvs, .d (nI t), .o (ns.map nI), v9, v10] hd) := by
    refine lft_nx (sAsg_o lc) ?_
    show (true && (true && (true && (true && (true && (true && (true && (true && (true && (noL v9 && (noL v10 && true))))))))))) = true
    rw [n9, n10] <;> rfl
  have c1 := cNe_u (fa := eVar 8) (env := [.a p, .d (encMan M), .d (encJobs M.n jobs), .d (.int 160), .d (encRoom M.k M.n (R T)), .o (weavD w T), .k kvs, .d (nI t), .o (ns.map nI), v9, v10]) (ns := ns) rfl
  have c2 := cLt_ok (fa := eB1 gLen (aCons (eVar 5) aNil)) (fb := eVar 3) (env := [.a p, .d (encMan M), .d (encJobs M.n jobs), .d (.int 160), .d (encRoom M.k M.n (R T)), .o (weavD w T), .k kvs, .d (nI t), .o (ns.map nI), v9, v10]) (i := (T : Int)) (j := 160) ((eLen_ok (v := .u (weavD w T)) (xs := weavD w T) rfl rfl).trans (by rw [weavD_len] <;> rfl)) rfl
  have skip : cAnd (cNe (eVar 8) (eLst aNil)) (cLt (eB1 gLen (aCons (eVar 5) aNil)) (eVar 3)) [.a p, .d (encMan M), .d (encJobs M.n jobs), .d (.int 160), .d (encRoom M.k M.n (R T)), .o (weavD w T), .k kvs, .d (nI t), .o (ns.map nI), v9, v10] = some false → ∃ e h, outB p [.a p, .d (encMan M), .d (encJobs M.n jobs), .d (.int 160), .d (encRoom M.k M.n (R T)), .o (weavD w T), .k kvs, .d (nI t), v8, v9, v10] hd = some (.nx e h) ∧ Wo M jobs p B (t + 1) e h := fun c =>
    ⟨_, _, bSeq_nx s1 (bIf_f (mTD_ok c) rfl), ⟨⟨T, R, w, kvs, _, _, _, _, ⟨run, rfl⟩, hT, by omega, rfl, rfl, n9, n10⟩, ok.mono (by omega)⟩⟩
  show ∃ e h, outB p [.a p, .d (encMan M), .d (encJobs M.n jobs), .d (.int 160), .d (encRoom M.k M.n (R T)), .o (weavD w T), .k kvs, .d (nI t), v8, v9, v10] hd = some (.nx e h) ∧ _
  by_cases h1 : ns = []
  · rw [decide_eq_false (by simpa using h1)] at c1
    exact skip (cAnd_f c1)
  rw [decide_eq_true h1] at c1
  by_cases h2 : (T : Int) < 160
  case neg =>
    rw [decide_eq_false h2] at c2
    exact skip (cAnd_t c1 c2)
  rw [decide_eq_true h2] at c2
  have nl : 0 < ns.length := List.length_pos_iff.mpr h1
  have nl2 : ns.length ≤ 5 := by
    have a1 := List.length_filter_le (fun (h : Nat) => !(valO kvs (.inl (h : Int))).isSome) (mays M jobs (R T))
    have a2 := List.length_filter_le (fun h => (deedAt (jobs h) ((R T).row h).told.length).isSome) (List.range M.n)
    rw [List.length_range] at a2
    have a3 := rt.n5
    have a4 : (mays M jobs (R T)).length ≤ M.n := a2
    have a5 : ns.length ≤ (mays M jobs (R T)).length := a1
    omega
  obtain ⟨d, hd1, e1, dm, ok1⟩ := f_pick p ok (by omega) (xs := ns.map nI) (by rw [List.length_map]; exact nl) (by rw [List.length_map]; omega)
  obtain ⟨h, hm, rfl⟩ := List.mem_map.mp dm
  have s2 : bAsg 9 (mCall p 0 1 F_law_pick (xD (aCons (eVar 8) aNil))) [.a p, .d (encMan M), .d (encJobs M.n jobs), .d (.int 160), .d (encRoom M.k M.n (R T)), .o (weavD w T), .k kvs, .d (nI t), .o (ns.map nI), v9, v10] hd = some (.nx [.a p, .d (encMan M), .d (encJobs M.n jobs), .d (.int 160), .d (encRoom M.k M.n (R T)), .o (weavD w T), .k kvs, .d (nI t), .o (ns.map nI), .d (nI h), v10] hd1) :=
    bAsg_ok (mCall_ok (vals := [.u (ns.map nI)]) rfl rfl ⟨rfl, rfl⟩ e1)
  obtain ⟨t4, hd2, e2, t40, t41, ok2⟩ := f_take p ok1 (by omega) (n := 40) (by omega) (by omega)
  have c3 := mT2_eq (fa := mCall p 0 1 F_law_take (xD (aCons (eD (.int 40)) aNil))) (fb := mD (eD (.int 0))) (env := [.a p, .d (encMan M), .d (encJobs M.n jobs), .d (.int 160), .d (encRoom M.k M.n (R T)), .o (weavD w T), .k kvs, .d (nI t), .o (ns.map nI), .d (nI h), v10]) (hd := hd1) (h1 := hd2) (h2 := hd2) (a := t4) (b := 0) (mCall_ok (vals := [.d (.int 40)]) rfl rfl ⟨rfl, rfl⟩ e2) (mD_ok rfl)
  obtain ⟨kvs', s3, hk'⟩ : ∃ kvs', bIf (mT2 gEq (mCall p 0 1 F_law_take (xD (aCons (eD (.int 40)) aNil))) (mD (eD (.int 0)))) (lft (sPutT 6 (eVar 9))) bNil [.a p, .d (encMan M), .d (encJobs M.n jobs), .d (.int 160), .d (encRoom M.k M.n (R T)), .o (weavD w T), .k kvs, .d (nI t), .o (ns.map nI), .d (nI h), v10] hd1 = some (.nx [.a p, .d (encMan M), .d (encJobs M.n jobs), .d (.int 160), .d (encRoom M.k M.n (R T)), .o (weavD w T), .k kvs', .d (nI t), .o (ns.map nI), .d (nI h), v10] hd2) ∧ kvs'.length ≤ t + 1 := by
    by_cases h0 : t4 = 0
    · rw [decide_eq_true h0] at c3
      refine ⟨putO kvs (.inl (h : Int)) none, bIf_t c3 (lft_nx (sPutT_ok (a := (h : Int)) rfl rfl (by omega)) ?_), Nat.le_trans (putO_len _ _ _) (by omega)⟩
      show (true && (true && (true && (true && (true && (true && (true && (true && (true && (true && (noL v10 && true))))))))))) = true
      rw [n10] <;> rfl
    · rw [decide_eq_false h0] at c3
      exact ⟨kvs, bIf_f c3 rfl, by omega⟩
  obtain ⟨d5, hd3, e3, dm5, ok3⟩ := f_pick p ok2 (by omega) (xs := [.int 1, .int 1, .int 2, .int 3, .int 5, .int 9, .int 30]) (by simp) (by simp)
  obtain ⟨n, rfl, hn⟩ : ∃ n : Nat, d5 = nI n ∧ n ≤ 30 := by
    simp only [List.mem_cons, List.not_mem_nil, or_false] at dm5
    rcases dm5 with rfl | rfl | rfl | rfl | rfl | rfl | rfl
    · exact ⟨1, rfl, by omega⟩
    · exact ⟨1, rfl, by omega⟩
    · exact ⟨2, rfl, by omega⟩
    · exact ⟨3, rfl, by omega⟩
    · exact ⟨5, rfl, by omega⟩
    · exact ⟨9, rfl, by omega⟩
    · exact ⟨30, rfl, by omega⟩
  obtain ⟨T', R', w', e, v10', q1, W', hT', hv⟩ := inner_ok (M := M) (jobs := jobs) (p := p) (T0 := T) (hd := hd3) (h := h) (kvs := kvs') (v7 := .d (nI t)) (v8 := .o (ns.map nI)) (v10 := v10) rt hj (by omega) rfl rfl ⟨run, rfl⟩ hn
  have s4 : bFor 10 (xM (mCall p 0 1 F_law_pick (xD (aCons (eLst (aCons (eD (.int 1)) (aCons (eD (.int 1)) (aCons (eD (.int 2)) (aCons (eD (.int 3)) (aCons (eD (.int 5)) (aCons (eD (.int 9)) (aCons (eD (.int 30)) aNil)))))))) aNil)))) inB [.a p, .d (encMan M), .d (encJobs M.n jobs), .d (.int 160), .d (encRoom M.k M.n (R T)), .o (weavD w T), .k kvs', .d (nI t), .o (ns.map nI), .d (nI h), v10] hd2 = some (.nx e hd3) :=
    bFor_ok (n := n) (by omega) (xM_ok (mCall_ok (vals := [.o [.int 1, .int 1, .int 2, .int 3, .int 5, .int 9, .int 30]]) rfl rfl ⟨rfl, rfl⟩ e3)) q1
  exact ⟨e, hd3, bSeq_nx s1 (bIf_t (mTD_ok (cAnd_t c1 c2)) (bSeq_nx s2 (bSeq_nx s3 s4))), ⟨⟨T', R', w', kvs', _, _, _, v10', W', by omega, hk', rfl, rfl, rfl, hv n10⟩, ok3.mono (by omega)⟩⟩
theorem f_woven {B : Int} {hd : List Int} (hB : B ≤ 800000) (rt : Right M) (hj : ∀ i, i < M.n → (jobs i).length ≤ 900) (ok : HdOk B hd) : ∃ T R w hd', F_law_woven p hd [.d (encMan M), .d (encJobs M.n jobs), .d (.int 160)] = some (.tup [.tup (weavD w T), encRoom M.k M.n (R T)], hd') ∧ Run M jobs R w T ∧ T ≤ 190 ∧ HdOk (B + 480) hd' := by
  have s1 : lft (sPar3 4 5 6 (eCall 2 F_begun (aCons (eVar 1) (aCons (eVar 2) aNil)))) [.a p, .d (encMan M), .d (encJobs M.n jobs), .d (.int 160), .un, .un, .un, .un, .un, .un, .un] hd = some (.nx [.a p, .d (encMan M), .d (encJobs M.n jobs), .d (.int 160), .d (encRoom M.k M.n (begun M.k M.n)), .o [], .k [], .un, .un, .un, .un] hd) := by
    have b := eCall_ok (n := 2) (F := F_begun) (fs := aCons (eVar 1) (aCons (eVar 2) aNil)) (env := [.a p, .d (encMan M), .d (encJobs M.n jobs), .d (.int 160), .un, .un, .un, .un, .un, .un, .un]) (v := .d (encRoom M.k M.n (begun M.k M.n))) (vals := [.d (encMan M), .d (encJobs M.n jobs)]) rfl (f_begun rt.n1 rt.n5 (kd_of rt) jobs)
    refine lft_nx ?_ rfl
    unfold sPar3
    rw [b] <;> rfl
  obtain ⟨e, h, q1, q2⟩ := forB_inv (i := 7) (body := outB p) (Wo M jobs p B) 160 0 [.a p, .d (encMan M), .d (encJobs M.n jobs), .d (.int 160), .d (encRoom M.k M.n (begun M.k M.n)), .o [], .k [], .un, .un, .un, .un] hd
    ⟨⟨0, fun _ => begun M.k M.n, fun _ => 0, [], .un, .un, .un, .un, ⟨⟨rfl, fun t ht => absurd ht (by omega), fun t ht => absurd ht (by omega)⟩, rfl⟩, by omega, Nat.le_refl _, rfl, rfl, rfl, rfl⟩, ok.mono (by omega)⟩ fun j env hd _ hj2 W => outer_ok hB (by omega) rt hj W
  obtain ⟨⟨T, R, w, kvs, v7, v8, v9, v10, ⟨run, rfl⟩, hT, hk, _⟩, ok'⟩ := q2
  have s2 : bFor 7 (xD (aCons (eVar 3) aNil)) (outB p) [.a p, .d (encMan M), .d (encJobs M.n jobs), .d (.int 160), .d (encRoom M.k M.n (begun M.k M.n)), .o [], .k [], .un, .un, .un, .un] hd = some (.nx [.a p, .d (encMan M), .d (encJobs M.n jobs), .d (.int 160), .d (encRoom M.k M.n (R T)), .o (weavD w T), .k kvs, v7, v8, v9, v10] h) :=
    bFor_ok (n := 160) (by omega) rfl q1
  exact ⟨T, R, w, h, fnB_ok rfl (bSeq_nx s1 (bSeq_nx s2 (lft_rt (sRet_d rfl)))), run, hT, ok'.mono (by omega)⟩
end
end K98

/-! ## Rows8 -/
/-! The rows of a story over a run: the last puts, and what the looks told. -/
namespace K98
def cG (m h : Nat) (q : SRow) : Option Int := if q.h = h then counts m q else none
def lG (q : SRow) : Option (List Int) := match q.d, q.e with
  | .look, some _ => q.tl
  | _, _ => none
def tG' (h : Nat) (q : SRow) : Option (List Int) := if q.h = h then lG q else none
theorem lastV_eq (m h : Nat) (rows : List SRow) : lastV m h rows = (rows.filterMap (cG m h)).getLast? := rfl
section
variable {α β : Type} {g : α → Option β}
theorem fm_congr {g' : α → Option β} : ∀ {l : List α}, (∀ q, q ∈ l → g q = g' q) → l.filterMap g = l.filterMap g'
  | [], _ => rfl
  | a :: r, h => by
    rw [List.filterMap_cons, List.filterMap_cons, h a List.mem_cons_self, fm_congr fun q hq => h q (List.mem_cons_of_mem _ hq)]
theorem fm_nil {l : List α} (h : ∀ q, q ∈ l → g q = none) : l.filterMap g = [] := by
  induction l with
  | nil => rfl
  | cons a r ih =>
    rw [List.filterMap_cons, h a List.mem_cons_self]
    exact ih fun q hq => h q (List.mem_cons_of_mem _ hq)
theorem set_split {l : List α} {i : Nat} {q0 q : α} (h : l[i]? = some q0) : l = l.take i ++ q0 :: l.drop (i + 1) ∧ l.set i q = l.take i ++ q :: l.drop (i + 1) := by
  obtain ⟨hi, e⟩ := List.getElem?_eq_some_iff.mp h
  refine ⟨?_, ?_⟩
  · rw [← e, ← List.drop_eq_getElem_cons hi, List.take_append_drop]
  · rw [List.set_eq_take_append_cons_drop, if_pos hi]
theorem fm_set {l : List α} {i : Nat} {q0 q : α} (h : l[i]? = some q0) (h0 : g q0 = none) (hb : ∀ j q', i < j → l[j]? = some q' → g q' = none) : (l.set i q).filterMap g = l.filterMap g ++ (g q).toList := by
  obtain ⟨e1, e2⟩ := set_split (q := q) h
  have hn : (l.drop (i + 1)).filterMap g = [] := fm_nil fun q' hq => by
    obtain ⟨j, hj⟩ := List.mem_iff_getElem?.mp hq
    rw [List.getElem?_drop] at hj
    exact hb _ q' (by omega) hj
  have e3 : l.filterMap g = (l.take i).filterMap g := by
    conv => lhs; rw [e1]
    rw [List.filterMap_append, List.filterMap_cons, h0, hn, List.append_nil]
  rw [e2, e3, List.filterMap_append, List.filterMap_cons, hn]
  cases g q <;> rfl
theorem fm_same {l : List α} {i : Nat} {q0 q : α} (h : l[i]? = some q0) (he : g q0 = g q) : (l.set i q).filterMap g = l.filterMap g := by
  obtain ⟨e1, e2⟩ := set_split (q := q) h
  rw [e2]
  conv => rhs; rw [e1]
  rw [List.filterMap_append, List.filterMap_append, List.filterMap_cons, List.filterMap_cons, he]
end
theorem counts_none {m : Nat} {q : SRow} (h : q.e = none) : counts m q = none := by
  unfold counts
  rw [h]
  cases q.d <;> rfl
theorem counts_late {m : Nat} {q : SRow} {e : Nat} (h : q.e = some e) (hm : m < e) : counts m q = none := by
  unfold counts
  rw [h]
  cases q.d with
  | look => rfl
  | put v => exact if_neg (by omega)
theorem counts_look {m : Nat} {q : SRow} (h : q.d = .look) : counts m q = none := by
  unfold counts
  rw [h]
theorem counts_put {m e : Nat} {q : SRow} {v : Int} (h : q.d = .put v) (he : q.e = some e) (hm : e ≤ m) : counts m q = some v := by
  unfold counts
  rw [h, he]
  exact if_pos hm
theorem counts_more {m : Nat} {q : SRow} (h : ∀ e, q.e = some e → e ≤ m) : counts (m + 1) q = counts m q := by
  cases he : q.e with
  | none => rw [counts_none he, counts_none he]
  | some e =>
    have := h e he
    cases hd : q.d with
    | look => rw [counts_look hd, counts_look hd]
    | put v => rw [counts_put hd he (by omega), counts_put hd he this]
theorem lG_none {q : SRow} (h : q.e = none) : lG q = none := by
  unfold lG
  rw [h]
  cases q.d <;> rfl
theorem putOf_val {k : Kd} {n h many : Nat} {v : Int} {rs : List Rd} {x : C} (e : putOf k n h v many rs = .wrO x) : x.val = v := by
  unfold putOf at e
  split at e
  · cases e; rfl
  · cases e; rfl
  · split at e
    · cases e; rfl
    · rename_i q; exact absurd e (lookHanded_not _ _ _ _)
  · split at e
    · cases e
    · split at e
      · cases e; rfl
      · exact absurd e (lookSigns_not _ _ _ _ _ _ _)
section
variable {M : Man} {jobs : Nat → Items} {R : Nat → Rm} {w : Nat → Nat} {T : Nat}
structure RI (M : Man) (R : Nat → Rm) (s : Fol) (t : Nat) : Prop where
  open_ : ∀ h i, s.uw h = some i → ∃ q, s.rows[i]? = some q ∧ q.h = h ∧ q.e = none ∧ ∀ j q', i < j → s.rows[j]? = some q' → q'.h ≠ h
  ended : ∀ q, q ∈ s.rows → ∀ e, q.e = some e → e ≤ t
  hand : ∀ q, q ∈ s.rows → q.h < M.n
  vals : ∀ m, m ≤ t → ∀ h, (lastV m h s.rows).getD 0 = ((R m).own h).val
  tolds : ∀ h, s.rows.filterMap (tG' h) = (tl R h t).filterMap id
theorem firstC_val (k : Kd) (n : Nat) : (firstC k n).val = 0 := by cases k <;> rfl
theorem ri_zero (r : Run M jobs R w T) : RI M R ⟨[], fun _ => none⟩ 0 := by
  refine ⟨fun h i e => (by cases e), fun q hq => (by cases hq), fun q hq => (by cases hq), fun m hm h => ?_, fun h => ?_⟩
  · have : m = 0 := by omega
    subst this
    rw [r.zero]
    show (0 : Int) = (firstC M.k M.n).val
    rw [firstC_val]
  · unfold tl
    rw [r.zero] <;> rfl
/-- a deed's begin -/
theorem ri_begin {s : Fol} {t h : Nat} {d : Deed} (hh : h < M.n) (I : RI M R s t) : RI M R (folBegin s t h d) t := by
  unfold folBegin
  cases hu : s.uw h with
  | some i => exact I
  | none =>
    have fm : ∀ {β : Type} (g : SRow → Option β), g (⟨h, d, t, none, none⟩ : SRow) = none → (s.rows ++ [(⟨h, d, t, none, none⟩ : SRow)]).filterMap g = s.rows.filterMap g := fun g hg => by
      rw [List.filterMap_append, List.filterMap_cons, hg]
      exact List.append_nil _
    refine ⟨fun h2 i e => ?_, fun q hq e he => ?_, fun q hq => ?_, fun m hm h2 => ?_, fun h2 => ?_⟩
    · have e : upd1 s.uw h (some s.rows.length) h2 = some i := e
      unfold upd1 at e
      by_cases hx : h2 = h
      · rw [if_pos hx] at e
        cases e
        refine ⟨⟨h, d, t, none, none⟩, ?_, hx.symm, rfl, fun j q' hj hq => ?_⟩
        · show (s.rows ++ [_])[s.rows.length]? = _
          rw [List.getElem?_append_right (Nat.le_refl _), Nat.sub_self] <;> rfl
        · have := (List.getElem?_eq_some_iff.mp hq).1
          rw [List.length_append] at this
          have : j < s.rows.length + 1 := this
          omega
      · rw [if_neg hx] at e
        obtain ⟨q, q1, q2, q3, q4⟩ := I.open_ h2 i e
        refine ⟨q, ?_, q2, q3, fun j q' hj hq => ?_⟩
        · show (s.rows ++ [_])[i]? = _
          rw [List.getElem?_append_left (List.getElem?_eq_some_iff.mp q1).1]
          exact q1
        · by_cases hl : j < s.rows.length
          · rw [List.getElem?_append_left hl] at hq
            exact q4 j q' hj hq
          · rw [List.getElem?_append_right (by omega)] at hq
            have := List.mem_of_getElem? hq
            rw [List.mem_singleton] at this
            subst this
            exact fun z => hx z.symm
    · rcases List.mem_append.mp hq with z | z
      · exact I.ended q z e he
      · rw [List.mem_singleton] at z
        subst z
        cases he
    · rcases List.mem_append.mp hq with z | z
      · exact I.hand q z
      · rw [List.mem_singleton] at z
        subst z
        exact hh
    · rw [lastV_eq]
      show (((s.rows ++ [_]).filterMap (cG m h2)).getLast?).getD 0 = _
      rw [fm (cG m h2) (by unfold cG; rw [counts_none rfl]; split <;> rfl)]
      exact I.vals m hm h2
    · show (s.rows ++ [_]).filterMap (tG' h2) = _
      rw [fm (tG' h2) (by unfold tG'; rw [lG_none rfl]; split <;> rfl)]
      exact I.tolds h2
theorem lastV_more {s : Fol} {t h : Nat} (I : RI M R s t) : lastV (t + 1) h s.rows = lastV t h s.rows := by
  rw [lastV_eq, lastV_eq]
  congr 1
  refine fm_congr fun q hq => ?_
  unfold cG
  rw [counts_more (I.ended q hq)]
theorem Run.rows_inv (r : Run M jobs R w T) : ∀ t, t ≤ T → RI M R (folRun M jobs R w t) t
  | 0, _ => ri_zero r
  | t + 1, ht => by
    obtain ⟨d, x, e⟩ := r.step t ht
    obtain ⟨s, S⟩ := stepped_is e
    have I := ri_begin (t := t) (d := d) (r.hand t ht) (r.rows_inv t (Nat.le_of_lt ht))
    have cnt := r.count ht
    rw [folRun_step e]
    cases x with
    | none =>
      show RI M R (folBegin _ t (w t) d) (t + 1)
      have etl : ∀ h, tl R h (t + 1) = tl R h t := fun h => by
        by_cases hw : h = w t
        · subst hw; exact (S.goes rfl).1
        · exact (S.other h hw).1
      have eow : ∀ h, (R (t + 1)).own h = (R t).own h := fun h => by
        rcases cnt h with ⟨_, z, _⟩ | ⟨_, _, z, _⟩
        · exact z
        · rw [etl h] at z
          have := congrArg List.length z
          rw [List.length_append] at this
          simp at this
      refine ⟨I.open_, fun q hq e he => Nat.le_succ_of_le (I.ended q hq e he), I.hand, fun m hm h => ?_, fun h => by rw [etl h]; exact I.tolds h⟩
      rcases Nat.lt_or_ge m (t + 1) with z | z
      · exact I.vals m (by omega) h
      · have : m = t + 1 := by omega
        subst this
        rw [lastV_more I, eow h]
        exact I.vals t (Nat.le_refl _) h
    | some y =>
      obtain ⟨i, hi⟩ := folBegin_at (folRun M jobs R w t) t (w t) d
      obtain ⟨q0, g1, g2, g3, g4⟩ := I.open_ _ _ hi
      obtain ⟨etl, erd⟩ := S.ends y rfl
      let qn : SRow := ⟨w t, d, ((((folBegin (folRun M jobs R w t) t (w t) d).rows)[i]?).map SRow.b).getD 0, some (t + 1), y⟩
      have er : (folStep (folRun M jobs R w t) t (w t) d (some y)).rows = (folBegin (folRun M jobs R w t) t (w t) d).rows.set i qn := by
        show (folBegin (folRun M jobs R w t) t (w t) d).rows.set (((folBegin (folRun M jobs R w t) t (w t) d).uw (w t)).getD 0) _ = _
        rw [hi] <;> rfl
      have eu : ∀ h, (folStep (folRun M jobs R w t) t (w t) d (some y)).uw h = if h = w t then none else (folBegin (folRun M jobs R w t) t (w t) d).uw h := fun h => rfl
      have hlt : i < (folBegin (folRun M jobs R w t) t (w t) d).rows.length := (List.getElem?_eq_some_iff.mp g1).1
      -- what the put wrote, what the deed told
      have put : ∀ v, d = .put v → y = none ∧ ((R (t + 1)).own (w t)).val = v := fun v hd => by
        subst hd
        rcases cnt (w t) with ⟨z, _, _⟩ | ⟨_, _, z1, v2, c, z2, z3, z4, _⟩
        · exfalso
          obtain ⟨j, j1, _⟩ := deedAt_put S.deed
          have := manyAt_succ_put j1
          unfold cn tl at z
          rw [etl, List.length_append] at z
          have z : manyAt (jobs (w t)) (((R t).row (w t)).told.length + 1) = manyAt (jobs (w t)) ((R t).row (w t)).told.length := z
          omega
        · refine ⟨?_, ?_⟩
          · have z1 : ((R (t + 1)).row (w t)).told = ((R t).row (w t)).told ++ [none] := z1
            rw [etl] at z1
            have := List.append_cancel_left z1
            cases this
            rfl
          · have z2 : deedAt (jobs (w t)) ((R t).row (w t)).told.length = some (.put v2) := z2
            rw [S.deed] at z2
            cases z2
            rw [z4]
            exact putOf_val z3
      have still : d = .look → (R (t + 1)).own (w t) = (R t).own (w t) := fun hd => by
        subst hd
        rw [S.own]
        refine congrFun (own_still fun c z => ?_) _
        rw [S.stp] at z
        exact lookOf_not _ _ _ _ _ z
      refine ⟨fun h2 i2 hu => ?_, fun q hq e he => ?_, fun q hq => ?_, fun m hm h2 => ?_, fun h2 => ?_⟩
      · rw [eu h2] at hu
        by_cases hx : h2 = w t
        · rw [if_pos hx] at hu; cases hu
        · rw [if_neg hx] at hu
          obtain ⟨q, q1, q2, q3, q4⟩ := I.open_ h2 i2 hu
          have hne : i ≠ i2 := fun z => by
            rw [← z, g1] at q1
            cases q1
            exact hx (q2.symm.trans g2)
          rw [er]
          refine ⟨q, by rw [List.getElem?_set_ne hne]; exact q1, q2, q3, fun j q' hj hq => ?_⟩
          by_cases hij : i = j
          · subst hij
            rw [List.getElem?_set_self hlt] at hq
            cases hq
            exact fun z => hx z.symm
          · rw [List.getElem?_set_ne hij] at hq
            exact q4 j q' hj hq
      · rw [er] at hq
        rcases List.mem_or_eq_of_mem_set hq with z | z
        · exact Nat.le_succ_of_le (I.ended q z e he)
        · subst z
          cases he
          exact Nat.le_refl _
      · rw [er] at hq
        rcases List.mem_or_eq_of_mem_set hq with z | z
        · exact I.hand q z
        · subst z
          exact r.hand t ht
      · have z0 : ∀ m h2, cG m h2 q0 = none := fun m h2 => by unfold cG; rw [counts_none g3]; split <;> rfl
        rw [lastV_eq, er]
        by_cases hx : h2 = w t
        · subst hx
          rw [fm_set g1 (z0 m _) fun j q' hj hq => by unfold cG; rw [if_neg (g4 j q' hj hq)]]
          rcases Nat.lt_or_ge m (t + 1) with z | z
          · rw [show cG m (w t) qn = none by unfold cG; rw [if_pos rfl]; exact counts_late rfl z]
            show (((folBegin (folRun M jobs R w t) t (w t) d).rows.filterMap (cG m (w t)) ++ []).getLast?).getD 0 = _
            rw [List.append_nil]
            exact I.vals m (by omega) _
          · have : m = t + 1 := by omega
            subst this
            have cs : d = .look ∨ ∃ v, d = .put v := by cases d; exact .inl rfl; exact .inr ⟨_, rfl⟩
            rcases cs with hd | ⟨v, hd⟩
            · rw [show cG (t + 1) (w t) qn = none by unfold cG; rw [if_pos rfl]; exact counts_look hd]
              rw [still hd]
              show (((folBegin (folRun M jobs R w t) t (w t) d).rows.filterMap (cG (t + 1) (w t)) ++ []).getLast?).getD 0 = _
              rw [List.append_nil, ← lastV_eq, lastV_more I]
              exact I.vals t (Nat.le_refl _) _
            · rw [show cG (t + 1) (w t) qn = some v by unfold cG; rw [if_pos rfl]; exact counts_put hd rfl (Nat.le_refl _)]
              rw [(put v hd).2]
              show (((folBegin (folRun M jobs R w t) t (w t) d).rows.filterMap (cG (t + 1) (w t)) ++ [v]).getLast?).getD 0 = _
              rw [List.getLast?_append] <;> rfl
        · rw [fm_same g1 (by rw [z0]; unfold cG; rw [if_neg (fun z => hx z.symm)])]
          rcases Nat.lt_or_ge m (t + 1) with z | z
          · exact I.vals m (by omega) _
          · have : m = t + 1 := by omega
            subst this
            rw [← lastV_eq, lastV_more I, I.vals t (Nat.le_refl _) h2, S.own, own_other hx]
      · have z0 : ∀ h2, tG' h2 q0 = none := fun h2 => by unfold tG'; rw [lG_none g3]; split <;> rfl
        rw [er]
        by_cases hx : h2 = w t
        · subst hx
          rw [fm_set g1 (z0 _) fun j q' hj hq => by unfold tG'; rw [if_neg (g4 j q' hj hq)], I.tolds]
          unfold tl
          rw [etl, List.filterMap_append]
          congr 1
          rw [show tG' (w t) qn = lG qn from if_pos rfl]
          have cs : d = .look ∨ ∃ v, d = .put v := by cases d; exact .inl rfl; exact .inr ⟨_, rfl⟩
          rcases cs with hd | ⟨v, hd⟩
          · rw [show lG qn = y by unfold lG; rw [show qn.d = .look from hd]]
            cases y <;> rfl
          · rw [show lG qn = none by unfold lG; rw [show qn.d = .put v from hd], (put v hd).1] <;> rfl
        · rw [fm_same g1 (by rw [z0]; unfold tG'; rw [if_neg (fun z => hx z.symm)]), I.tolds h2]
          unfold tl
          rw [(S.other h2 hx).1]
end
end K98

/-! ## Rows9 -/
/-! The sums of a story over a run. -/
namespace K98
/-- the items are not below nought -/
def NonNeg (n : Nat) (jobs : Nat → Items) : Prop := ∀ h, h < n → ∀ i, some i ∈ jobs h → 0 ≤ i
section
variable {M : Man} {jobs : Nat → Items} {R : Nat → Rm} {w : Nat → Nat} {T : Nat}
theorem Run.val_sum (r : Run M jobs R w T) (h : Nat) : ∀ t, t ≤ T → ((R t).own h).val = sumAt (jobs h) (tl R h t).length
  | 0, _ => by
    unfold tl
    rw [r.zero]
    show (firstC M.k M.n).val = _
    rw [firstC_val]
    rfl
  | t + 1, ht => by
    have ih := r.val_sum h t (Nat.le_of_lt ht)
    rcases r.count ht h with ⟨_, a, b⟩ | ⟨_, _, _, v, x, _, a, b, c⟩
    · rw [a, b, ih]
    · rw [b, ← c]
      exact putOf_val a
theorem sumAt_succ {items : Items} (hn : ∀ i, some i ∈ items → 0 ≤ i) (k : Nat) : sumAt items k ≤ sumAt items (k + 1) := by
  unfold sumAt
  rw [List.take_add_one, List.filterMap_append, List.sum_append]
  cases h : items[k]? with
  | none => simp
  | some o =>
    cases o with
    | none => simp
    | some i =>
      have := hn i (List.mem_of_getElem? h)
      simp
      omega
theorem sumAt_mono {items : Items} (hn : ∀ i, some i ∈ items → 0 ≤ i) (a : Nat) : ∀ k, sumAt items a ≤ sumAt items (a + k)
  | 0 => Int.le_refl _
  | k + 1 => Int.le_trans (sumAt_mono hn a k) (sumAt_succ hn (a + k))
theorem sum_le (f g : Nat → Int) : ∀ n, (∀ h, h < n → f h ≤ g h) → ((List.range n).map f).sum ≤ ((List.range n).map g).sum
  | 0, _ => Int.le_refl _
  | n + 1, h => by
    rw [List.range_succ, List.map_append, List.map_append, List.sum_append, List.sum_append]
    have a := sum_le f g n fun i hi => h i (by omega)
    have b := h n (by omega)
    simp only [List.map_cons, List.map_nil, List.sum_cons, List.sum_nil]
    omega
/-- the sum of what stands never falls -/
theorem Run.sum_mono (r : Run M jobs R w T) (hn : NonNeg M.n jobs) {a b : Nat} (hab : a ≤ b) (hb : b ≤ T) : (state M.n (R a)).sum ≤ (state M.n (R b)).sum := by
  unfold state
  refine sum_le _ _ _ fun h hh => ?_
  rw [r.val_sum h a (by omega), r.val_sum h b hb]
  have g := (r.grow h a (b - a) (by omega)).1
  rw [show a + (b - a) = b by omega] at g
  have := sumAt_mono (hn h hh) (tl R h a).length ((tl R h b).length - (tl R h a).length)
  rw [show (tl R h a).length + ((tl R h b).length - (tl R h a).length) = (tl R h b).length by omega] at this
  exact this
theorem tot_keys {n m : Nat} : ∀ (k : Nat) (rows : List SRow), rows.length = k → (∀ q, q ∈ rows → q.h < n) → ((totA rows m).map (·.1)).Nodup ∧ ∀ kv, kv ∈ totA rows m → kv.1 < n
  | 0, rows, e, _ => by
    cases List.length_eq_zero_iff.mp e
    exact ⟨List.nodup_nil, fun kv h => by cases h⟩
  | k + 1, rows, e, hl => by
    obtain ⟨r, q, rfl⟩ : ∃ r q, rows = r ++ [q] := by
      have hne : rows ≠ [] := fun z => by subst z; cases e
      exact ⟨rows.dropLast, rows.getLast hne, (List.dropLast_concat_getLast hne).symm⟩
    have e1 : r.length = k := by rw [List.length_append] at e; exact Nat.succ.inj e
    obtain ⟨h1, h2⟩ := tot_keys (n := n) (m := m) k r e1 fun q hq => hl q (List.mem_append_left _ hq)
    rw [tot_snoc]
    unfold totStep
    cases counts m q with
    | none => exact ⟨h1, h2⟩
    | some v => exact ⟨putA_nodup h1, putA_lt h2 (hl q (List.mem_append_right _ List.mem_cons_self))⟩
/-- the law's total behind m steps is the sum of the state -/
theorem Run.total_eq (r : Run M jobs R w T) {m : Nat} (hm : m ≤ T) : total (folRun M jobs R w T).rows m = (state M.n (R m)).sum := by
  have I := r.rows_inv T (Nat.le_refl _)
  obtain ⟨h1, h2⟩ := tot_keys (n := M.n) (m := m) _ _ rfl I.hand
  unfold total
  rw [sumA_eq h1 h2]
  unfold sumA state
  congr 1
  refine List.map_congr_left fun h _ => ?_
  rw [look_tot m h _ _ rfl]
  exact I.vals m hm h
/-- an ended look tells the total of a moment between its begin and its end -/
theorem Run.look_total (r : Run M jobs R w T) (rt : Right M) {q : SRow} (hq : q ∈ (folRun M jobs R w T).rows) (hd : q.d = .look) {e : Nat} (he : q.e = some e) :
    ∃ st, q.tl = some st ∧ e ≤ T ∧ ∃ m, q.b ≤ m ∧ m < e ∧ total (folRun M jobs R w T).rows m = st.sum ∧ state M.n (R m) = st := by
  obtain ⟨st, a, b, m, c, d, f⟩ := r.look_rows rt T (Nat.le_refl _) q hq hd e he
  exact ⟨st, a, b, m, c, d, by rw [r.total_eq (by omega), f], f⟩
/-- a look that begins behind another's end tells no less -/
theorem Run.look_later (r : Run M jobs R w T) (rt : Right M) (hn : NonNeg M.n jobs) {q o : SRow} (hq : q ∈ (folRun M jobs R w T).rows) (ho : o ∈ (folRun M jobs R w T).rows) (hd : q.d = .look) (hdo : o.d = .look) {e f : Nat} (he : q.e = some e) (hf : o.e = some f) (h : f ≤ q.b)
    {st su : List Int} (hst : q.tl = some st) (hsu : o.tl = some su) : su.sum ≤ st.sum := by
  obtain ⟨st', a, b, m, c, d, _, g⟩ := r.look_total rt hq hd he
  obtain ⟨su', a', b', m', c', d', _, g'⟩ := r.look_total rt ho hdo hf
  rw [hst] at a
  rw [hsu] at a'
  cases a
  cases a'
  rw [← g, ← g']
  exact r.sum_mono hn (by omega) (by omega)
/-- an ended look -/
def isLook (q : SRow) : Bool := match q.d, q.e with
  | .look, some _ => true
  | _, _ => false
theorem isLook_iff {q : SRow} : isLook q = true ↔ q.d = .look ∧ ∃ e, q.e = some e := by
  unfold isLook
  cases q.d with
  | put v => simp
  | look =>
    cases q.e with
    | none => simp
    | some e => simp
theorem lG_look {q : SRow} (h : isLook q = true) : lG q = q.tl := by
  obtain ⟨hd, e, he⟩ := isLook_iff.mp h
  unfold lG
  rw [hd, he]
theorem lG_not {q : SRow} (h : isLook q = false) : lG q = none := by
  unfold isLook at h
  unfold lG
  cases hd : q.d with
  | put v => rfl
  | look =>
    cases he : q.e with
    | none => rfl
    | some e => rw [hd, he] at h; cases h
theorem tolds_filter (h : Nat) : ∀ rows : List SRow, (∀ q, q ∈ rows → isLook q = true → ∃ st, q.tl = some st) → (rows.filterMap (tG' h)).map List.sum = ((rows.filter isLook).filter fun q => decide (q.h = h)).map fun q => (q.tl.getD []).sum
  | [], _ => rfl
  | q :: r, hs => by
    have ih := tolds_filter h r fun q hq => hs q (List.mem_cons_of_mem _ hq)
    have hq := hs q List.mem_cons_self
    rw [List.filterMap_cons, List.filter_cons]
    cases hl : isLook q with
    | true =>
      obtain ⟨st, hst⟩ := hq hl
      rw [if_pos rfl, List.filter_cons]
      by_cases hh : q.h = h
      · rw [show tG' h q = some st by unfold tG'; rw [if_pos hh, lG_look hl, hst], if_pos (decide_eq_true hh)]
        show st.sum :: (r.filterMap (tG' h)).map List.sum = (q.tl.getD []).sum :: _
        rw [ih, hst] <;> rfl
      · rw [show tG' h q = none by unfold tG'; rw [if_neg hh], if_neg (by simpa using hh)]
        exact ih
    | false =>
      rw [show tG' h q = none by unfold tG'; rw [lG_not hl]; split <;> rfl, if_neg (by simp)]
      exact ih
/-- what a hand answers: the sums of its looks -/
theorem Run.answers (r : Run M jobs R w T) (rt : Right M) (h : Nat) : toldSums (tl R h T) = (((folRun M jobs R w T).rows.filter isLook).filter fun q => decide (q.h = h)).map fun q => (q.tl.getD []).sum := by
  have I := r.rows_inv T (Nat.le_refl _)
  unfold toldSums
  rw [← I.tolds h]
  refine tolds_filter h _ fun q hq hl => ?_
  obtain ⟨hd, e, he⟩ := isLook_iff.mp hl
  obtain ⟨st, a, _⟩ := r.look_rows rt T (Nat.le_refl _) q hq hd e he
  exact ⟨st, a⟩
end
end K98

/-! ## LSpec5 -/
/-! What the law's checks come to. -/
namespace K98
open PySem PySem.Spec PyProof.Rows L2
section
variable {M : Man} {jobs : Nat → Items} {R : Nat → Rm} {w : Nat → Nat} {T : Nat}
def isLookD : Deed → Bool
  | .look => true
  | .put _ => false
theorem cEq_look {fa : List Vl → Option Vl} {env : List Vl} {h : Nat} {d : Deed} (h1 : fa env = some (.d (encDeed h d))) : cEq fa (eTup (aCons (eD (.str "look")) aNil)) env = some (isLookD d) := by
  unfold cEq
  rw [t2_ok h1 (show eTup (aCons (eD (.str "look")) aNil) env = some (.d (.tup [.str "look"])) from rfl)]
  have sl : SeqAt.shaped (.tuple [.str "look"]) = true := by decide +kernel
  cases d with
  | look =>
    show (if SeqAt.shaped (.tuple [.str "look"]) = true ∧ SeqAt.shaped (.tuple [.str "look"]) = true then some (PyData.eqv (.tuple [.str "look"]) (.tuple [.str "look"])) else none) = some true
    rw [if_pos ⟨sl, sl⟩]
    show some ((("look" : PySem.Str) == "look") && true) = some true
    rw [show (("look" : PySem.Str) == "look") = true by decide +kernel] <;> rfl
  | put v =>
    have sp : SeqAt.shaped (.tuple [.str "put", .int (h : Int), .int v]) = true := by
      have e : SeqAt.shaped (.tuple [.str "put", .int (h : Int), .int v]) = SeqAt.shaped (.tuple [.str "put", .int 0, .int 0]) := rfl
      rw [e]
      decide +kernel
    show (if SeqAt.shaped (.tuple [.str "put", .int (h : Int), .int v]) = true ∧ SeqAt.shaped (.tuple [.str "look"]) = true then some (PyData.eqv (.tuple [.str "put", .int (h : Int), .int v]) (.tuple [.str "look"])) else none) = some false
    rw [if_pos ⟨sp, sl⟩]
    show some ((("put" : PySem.Str) == "look") && false) = some false
    rw [Bool.and_false]
theorem isNon_optN (o : Option Nat) : isNonD (optN o) = o.isNone := by cases o <;> rfl
theorem look_test {env : List Vl} {q : SRow} (h : env[19]? = some (.d (encSRow q))) : cAnd (cEq (eIx (eVar 19) (eD (.int 1))) (eTup (aCons (eD (.str "look")) aNil))) (cNotN (eIx (eVar 19) (eD (.int 3))) (eD .non)) env = some (isLook q) := by
  have hv : eVar 19 env = some (.d (encSRow q)) := by unfold eVar; rw [h]
  have c1 : cEq (eIx (eVar 19) (eD (.int 1))) (eTup (aCons (eD (.str "look")) aNil)) env = some (isLookD q.d) := cEq_look (h := q.h) (eIx_at (j := 1) hv rfl rfl rfl)
  have c2 : cNotN (eIx (eVar 19) (eD (.int 3))) (eD .non) env = some (isNonD (optN q.e) == false) := by
    unfold cNotN
    rw [t2_ok (eIx_at (j := 3) (x := optN q.e) hv rfl rfl rfl) (show eD .non env = some (.d .non) from rfl)] <;> rfl
  unfold isLook
  cases hd : q.d with
  | put v =>
    rw [hd] at c1
    exact cAnd_f c1
  | look =>
    rw [hd] at c1
    refine (cAnd_t c1 c2).trans ?_
    rw [isNon_optN]
    cases q.e <;> rfl
def looksOf (M : Man) (jobs : Nat → Items) (R : Nat → Rm) (w : Nat → Nat) (T : Nat) : List SRow := (folRun M jobs R w T).rows.filter isLook
theorem fol_len (r : Run M jobs R w T) : ∀ t, t ≤ T → (folRun M jobs R w t).rows.length ≤ t
  | 0, _ => Nat.le_refl _
  | t + 1, ht => by
    obtain ⟨d, x, e⟩ := r.step t ht
    rw [folRun_step e]
    exact Nat.le_trans folStep_len (Nat.succ_le_succ (fol_len r t (Nat.le_of_lt ht)))
theorem sRng2_at {fa fb : List Vl → Option Vl} {env : List Vl} {i j : Int} (h1 : fa env = some (.d (.int i))) (h2 : fb env = some (.d (.int j))) (h : (lims i && lims j) = true) : sRng2 (aCons fa (aCons fb aNil)) env = some (rowI i 1 (j - i).toNat) := by
  unfold sRng2
  rw [aCons_ok h1 (aCons_ok h2 aNil_ok)]
  simp only [intOf, Option.bind_some]
  rw [if_pos h]
/-- the totals of a look's steps -/
theorem tots_ok {rows : List SRow} (hl : rows.length ≤ 1000) {env : List Vl} {b e : Nat} (hb : b ≤ e) (he : e ≤ 900) (h9 : env[9]? = some (.d (.tup (rows.map encSRow)))) (h12 : env[12]? = some (.d (nI b))) (h13 : env[13]? = some (.d (nI e))) (hn : 20 < env.length) :
    eLc (sRng2 (aCons (eVar 12) (aCons (eAdd (eVar 13) (eD (.int 1))) aNil))) (gN 20) cYes (eCall 2 F_law_total (aCons (eVar 9) (aCons (eVar 20) aNil))) [20] env = some (.o (((List.range (e + 1 - b)).map fun i => total rows (b + i)).map D.int)) := by
  have v12 : eVar 12 env = some (.d (nI b)) := by unfold eVar; rw [h12]
  have v13 : eVar 13 env = some (.d (nI e)) := by unfold eVar; rw [h13]
  have src : sRng2 (aCons (eVar 12) (aCons (eAdd (eVar 13) (eD (.int 1))) aNil)) env = some ((List.range (e + 1 - b)).map fun (i : Nat) => D.int ((b : Int) + (i : Int) * 1)) := by
    have l1 := lims_nat (n := b) (by omega)
    have l2 := lims_nat (n := e + 1) (by omega)
    refine (sRng2_at (i := (b : Int)) (j := ((e + 1 : Nat) : Int)) v12 (eAdd_ok (i := e) (j := 1) v13 rfl) (by rw [l1, l2] <;> rfl)).trans ?_
    have : (((e + 1 : Nat) : Int) - (b : Int)).toNat = e + 1 - b := by omega
    rw [this] <;> rfl
  have lc := lc_all (src := sRng2 (aCons (eVar 12) (aCons (eAdd (eVar 13) (eD (.int 1))) aNil))) (gd := gN 20) (test := cYes) (elt := eCall 2 F_law_total (aCons (eVar 9) (aCons (eVar 20) aNil))) (vs := [20]) (env := env) (l := List.range (e + 1 - b)) (fun (i : Nat) => D.int ((b : Int) + (i : Int) * 1)) (fun _ => true) (fun i => D.int (total rows (b + i))) src (by rw [List.length_range]; omega) fun i hi => ⟨_, rfl, rfl, fun _ => ?_⟩
  · rw [List.filter_eq_self.mpr fun _ _ => rfl] at lc
    rw [lc, List.map_map] <;> rfl
  · have e20 : (env.set 20 .un).set 20 (.d (.int ((b : Int) + (i : Int) * 1))) = env.set 20 (.d (nI (b + i))) := by
      rw [List.set_set]
      unfold nI
      rw [show (b : Int) + (i : Int) * 1 = ((b + i : Nat) : Int) by omega]
    show eCall 2 F_law_total _ ((env.set 20 .un).set 20 (.d (.int ((b : Int) + (i : Int) * 1)))) = _
    rw [e20]
    have v9 : eVar 9 (env.set 20 (.d (nI (b + i)))) = some (.d (.tup (rows.map encSRow))) := by
      unfold eVar
      rw [List.getElem?_set_ne (by decide), h9]
    have v20 : eVar 20 (env.set 20 (.d (nI (b + i)))) = some (.d (nI (b + i))) := by
      unfold eVar
      rw [List.getElem?_set_self hn]
    exact eCall_ok (n := 2) (v := .d (.int (total rows (b + i)))) (vals := [.d (.tup (rows.map encSRow)), .d (nI (b + i))]) (aCons_ok v9 (aCons_ok v20 aNil_ok)) (f_law_total hl)
theorem sum_told {fa : List Vl → Option Vl} {env : List Vl} {st : List Int} (h : fa env = some (.d (tInts st))) : eB1 gSum (aCons fa aNil) env = some (.d (.int st.sum)) := by
  rw [eB1_ok h]
  unfold gSum
  rw [show seqOf (.d (tInts st)) = some (st.map D.int) from rfl, Option.bind_some, intsOf_ints] <;> rfl
theorem anyM_all {gd : D → List Vl → Option (List Vl)} {elt : List Vl → Option Bool} {envw : List Vl} {α : Type} (f : α → D) : ∀ l : List α, (∀ a, a ∈ l → ∃ e2, gd (f a) envw = some e2 ∧ elt e2 = some false) → ∃ bs, anyM gd elt envw (l.map f) = some bs ∧ bs.any id = false
  | [], _ => ⟨[], rfl, rfl⟩
  | a :: l, h => by
    obtain ⟨e2, h1, h2⟩ := h a List.mem_cons_self
    obtain ⟨bs, q1, q2⟩ := anyM_all f l fun b hb => h b (List.mem_cons_of_mem _ hb)
    refine ⟨false :: bs, ?_, by rw [List.any_cons, q2] <;> rfl⟩
    rw [List.map_cons, anyM, h1]
    simp only [Option.bind_some, h2, q1, Option.map_some]
theorem cNe_same {fa fb : List Vl → Option Vl} {env : List Vl} {l : List Int} (h1 : fa env = some (.d (tInts l))) (h2 : fb env = some (.d (tInts l))) : cNe fa fb env = some false := by
  unfold cNe
  rw [t2_ok h1 h2]
  unfold gNe
  rw [show deepOf (.d (tInts l)) = some (pd (tInts l)) from rfl, Option.bind_some, Option.bind_some, if_pos ⟨sh_tInts l, sh_tInts l⟩]
  show some (!PyData.eqvAll (pds (l.map D.int)) (pds (l.map D.int))) = _
  rw [eqv_ints]
  simp
end
end K98

/-! ## LSpec6 -/
/-! What the law's checks come to (2): none of them fails. -/
namespace K98
open PySem PySem.Spec PyProof.Rows L2
structure Tl (a : Addr) (M : Man) (jobs : Nat → Items) (RO : D) (rows : List SRow) (V10 : Vl) (env : List Vl) : Prop where
  len : env.length = 21
  h0 : env[0]? = some (.a a)
  h3 : env[3]? = some (.d (encMan M))
  h4 : env[4]? = some (.d (encJobs M.n jobs))
  h8 : env[8]? = some (.d RO)
  h9 : env[9]? = some (.d (.tup (rows.map encSRow)))
  h10 : env[10]? = some V10
theorem eVar_d {env : List Vl} {i : Nat} {x : D} (h : env[i]? = some (.d x)) : eVar i env = some (.d x) := by unfold eVar; rw [h]
theorem eVar_o {env : List Vl} {i : Nat} {xs : List D} (h : env[i]? = some (.o xs)) : eVar i env = some (.u xs) := by unfold eVar; rw [h]
theorem eVar_l {env : List Vl} {i : Nat} {xs : List D} (h : env[i]? = some (.l xs)) : eVar i env = some (.l xs) := by unfold eVar; rw [h]
section
variable {M : Man} {jobs : Nat → Items} {R : Nat → Rm} {w : Nat → Nat} {T : Nat} {a : Addr} {RO : D} {rows : List SRow} {V10 : Vl} {env : List Vl}
theorem Tl.set (h : Tl a M jobs RO rows V10 env) (i : Nat) (x : Vl) (hi : (i != 0 && i != 3 && i != 4 && i != 8 && i != 9 && i != 10) = true) : Tl a M jobs RO rows V10 (env.set i x) := by
  simp only [Bool.and_eq_true, bne_iff_ne] at hi
  obtain ⟨⟨⟨⟨⟨i0, i3⟩, i4⟩, i8⟩, i9⟩, i10⟩ := hi
  exact ⟨by rw [List.length_set]; exact h.len, by rw [List.getElem?_set_ne i0]; exact h.h0, by rw [List.getElem?_set_ne i3]; exact h.h3, by rw [List.getElem?_set_ne i4]; exact h.h4,
    by rw [List.getElem?_set_ne i8]; exact h.h8, by rw [List.getElem?_set_ne i9]; exact h.h9, by rw [List.getElem?_set_ne i10]; exact h.h10⟩
def chkB : List Vl → Option Out := sSeq (sAsg 15 (eLc (sRng2 (aCons (eVar 12) (aCons (eAdd (eVar 13) (eD (.int 1))) aNil))) (gN 20) cYes (eCall 2 F_law_total (aCons (eVar 9) (aCons (eVar 20) aNil))) [20])) (sSeq (sIf (cNotInL (eB1 gSum (aCons (eVar 14) aNil)) (eVar 15)) sNo sNil) (sIf (cAny (sLst (eVar 10)) (gN 18) (cAnd (cLe (eIx (eVar 18) (eD (.int 3))) (eVar 12)) (cGt (eB1 gSum (aCons (eIx (eVar 18) (eD (.int 4))) aNil)) (eB1 gSum (aCons (eVar 14) aNil)))) [18]) sNo sNil))
theorem chk_ok (r : Run M jobs R w T) (rt : Right M) (hn : NonNeg M.n jobs) (hT : T ≤ 190) {q : SRow} (hq : q ∈ looksOf M jobs R w T) (I : Tl a M jobs RO (folRun M jobs R w T).rows (.l ((looksOf M jobs R w T).map encSRow)) env)
    (h12 : env[12]? = some (.d (nI q.b))) (h13 : env[13]? = some (.d (optN q.e))) (h14 : env[14]? = some (.d (encTold q.tl))) : ∃ x, chkB env = some (.nx (env.set 15 x)) := by
  have hl := fol_len r T (Nat.le_refl _)
  obtain ⟨hq1, hq2⟩ := List.mem_filter.mp hq
  obtain ⟨hd, e, he⟩ := isLook_iff.mp hq2
  obtain ⟨st, htl, heT, m, m1, m2, hm, _⟩ := r.look_total rt hq1 hd he
  rw [he] at h13
  rw [htl] at h14
  have h13 : env[13]? = some (.d (nI e)) := h13
  have h14 : env[14]? = some (.d (tInts st)) := h14
  have t := tots_ok (rows := (folRun M jobs R w T).rows) (by omega) (b := q.b) (e := e) (by omega) (by omega) I.h9 h12 h13 (by rw [I.len]; decide)
  let ts : List Int := (List.range (e + 1 - q.b)).map fun i => total (folRun M jobs R w T).rows (q.b + i)
  have mem : st.sum ∈ ts := List.mem_map.mpr ⟨m - q.b, List.mem_range.mpr (by omega), by rw [show q.b + (m - q.b) = m by omega]; exact hm⟩
  have s1 : sAsg 15 (eLc (sRng2 (aCons (eVar 12) (aCons (eAdd (eVar 13) (eD (.int 1))) aNil))) (gN 20) cYes (eCall 2 F_law_total (aCons (eVar 9) (aCons (eVar 20) aNil))) [20]) env = some (.nx (env.set 15 (.o (ts.map D.int)))) := sAsg_o t
  have I2 := I.set 15 (.o (ts.map D.int)) rfl
  have g14 : (env.set 15 (.o (ts.map D.int)))[14]? = some (.d (tInts st)) := by rw [List.getElem?_set_ne (by decide)]; exact h14
  have g12 : (env.set 15 (.o (ts.map D.int)))[12]? = some (.d (nI q.b)) := by rw [List.getElem?_set_ne (by decide)]; exact h12
  have g15 : (env.set 15 (.o (ts.map D.int)))[15]? = some (.o (ts.map D.int)) := List.getElem?_set_self (by rw [I.len]; decide)
  have c1 : cNotInL (eB1 gSum (aCons (eVar 14) aNil)) (eVar 15) (env.set 15 (.o (ts.map D.int))) = some false := by
    unfold cNotInL
    rw [t2_ok (sum_told (eVar_d g14)) (eVar_o g15), gInL_ints rfl, decide_eq_true mem] <;> rfl
  have c2 : cAny (sLst (eVar 10)) (gN 18) (cAnd (cLe (eIx (eVar 18) (eD (.int 3))) (eVar 12)) (cGt (eB1 gSum (aCons (eIx (eVar 18) (eD (.int 4))) aNil)) (eB1 gSum (aCons (eVar 14) aNil)))) [18] (env.set 15 (.o (ts.map D.int))) = some false := by
    obtain ⟨bs, b1, b2⟩ := anyM_all (gd := gN 18) (elt := cAnd (cLe (eIx (eVar 18) (eD (.int 3))) (eVar 12)) (cGt (eB1 gSum (aCons (eIx (eVar 18) (eD (.int 4))) aNil)) (eB1 gSum (aCons (eVar 14) aNil)))) (envw := wipeE (env.set 15 (.o (ts.map D.int))) [18]) encSRow (looksOf M jobs R w T) fun o ho => ⟨_, rfl, by
      obtain ⟨ho1, ho2⟩ := List.mem_filter.mp ho
      obtain ⟨hdo, f, hf⟩ := isLook_iff.mp ho2
      obtain ⟨su, htu, _⟩ := r.look_total rt ho1 hdo hf
      have g18 : eVar 18 ((wipeE (env.set 15 (.o (ts.map D.int))) [18]).set 18 (.d (encSRow o))) = some (.d (encSRow o)) := eVar_d (List.getElem?_set_self (by rw [wipeE_length, List.length_set, I.len]; decide))
      have k14 : eVar 14 ((wipeE (env.set 15 (.o (ts.map D.int))) [18]).set 18 (.d (encSRow o))) = some (.d (tInts st)) := eVar_d (by rw [List.getElem?_set_ne (by decide), wipeE_out (by decide)]; exact g14)
      have k12 : eVar 12 ((wipeE (env.set 15 (.o (ts.map D.int))) [18]).set 18 (.d (encSRow o))) = some (.d (nI q.b)) := eVar_d (by rw [List.getElem?_set_ne (by decide), wipeE_out (by decide)]; exact g12)
      have x3 : eIx (eVar 18) (eD (.int 3)) ((wipeE (env.set 15 (.o (ts.map D.int))) [18]).set 18 (.d (encSRow o))) = some (.d (nI f)) := by
        have z := eIx_at (fb := eD (.int 3)) (j := 3) (x := optN o.e) g18 rfl rfl rfl
        rw [hf] at z
        exact z
      have x4 : eIx (eVar 18) (eD (.int 4)) ((wipeE (env.set 15 (.o (ts.map D.int))) [18]).set 18 (.d (encSRow o))) = some (.d (tInts su)) := by
        have z := eIx_at (fb := eD (.int 4)) (j := 4) (x := encTold o.tl) g18 rfl rfl rfl
        rw [htu] at z
        exact z
      have d1 := cLe_nat x3 k12
      have d2 := cGt_ok (sum_told x4) (sum_told k14)
      by_cases hle : f ≤ q.b
      · rw [decide_eq_true hle] at d1
        have := r.look_later rt hn hq1 ho1 hd hdo he hf hle htl htu
        rw [decide_eq_false (by omega)] at d2
        exact cAnd_t d1 d2
      · rw [decide_eq_false hle] at d1
        exact cAnd_f d1⟩
    have hs : sLst (eVar 10) (env.set 15 (.o (ts.map D.int))) = some ((looksOf M jobs R w T).map encSRow) := by
      unfold sLst
      rw [eVar_l I2.h10] <;> rfl
    have hll : ((looksOf M jobs R w T).map encSRow).length ≤ 1000 := by
      have := List.length_filter_le isLook (folRun M jobs R w T).rows
      rw [List.length_map]
      unfold looksOf
      omega
    unfold cAny
    rw [hs, Option.bind_some, if_pos hll, b1, Option.map_some, b2]
  exact ⟨_, sSeq_nx s1 (sSeq_nx (sIf_f c1 sNil_nx) (sIf_f c2 sNil_nx))⟩
/-! ### the answers -/
def ansB (C : Addr) : List Vl → Option Out := sSeq (sAsg 16 (eCall 3 (F_answer_ofC C) (aCons (eVar 5) (aCons (eIx (eVar 4) (eVar 5)) (aCons (eIx (eIx (eIx (eVar 8) (eD (.int 1))) (eVar 5)) (eD (.int 0))) aNil))))) (sSeq (sIf (cAnd (cNotN (eVar 16) (eD .non)) (cNe (eVar 16) (eB1 gTupL (aCons (eLc (sLst (eVar 10)) (gN 19) (cEq (eIx (eVar 19) (eD (.int 0))) (eVar 5)) (eB1 gSum (aCons (eIx (eVar 19) (eD (.int 4))) aNil)) [19]) aNil)))) sNo sNil) (sIf (cXor (cIsN (eVar 16) (eD .non)) (cInL (eVar 5) (eCall 3 F_may_step (aCons (eVar 3) (aCons (eVar 4) (aCons (eVar 8) aNil)))))) sNo sNil))
theorem ans_ok {C : Addr} (r : Run M jobs R w T) (rt : Right M) (hj : ∀ i, i < M.n → (jobs i).length ≤ 900) (hT : T ≤ 190) {h : Nat} (hh : h < M.n) (I : Tl a M jobs (encRoom M.k M.n (R T)) (folRun M jobs R w T).rows (.l ((looksOf M jobs R w T).map encSRow)) env)
    (h5 : env[5]? = some (.d (nI h))) : ∃ x, ansB C env = some (.nx (env.set 16 x)) := by
  have hl := fol_len r T (Nat.le_refl _)
  have ok := rm_run rt.n1 r T (Nat.le_refl _)
  let tld := ((R T).row h).told
  have v5 := eVar_d h5
  have x1 : eIx (eVar 4) (eVar 5) env = some (.d (encJob (jobs h))) := eIx_at (j := h) (xs := (List.range M.n).map fun i => encJob (jobs i)) (eVar_d I.h4) rfl v5 (by rw [List.getElem?_map, List.getElem?_range hh] <;> rfl)
  have x2 : eIx (eIx (eIx (eVar 8) (eD (.int 1))) (eVar 5)) (eD (.int 0)) env = some (.d (.tup (tld.map encTold))) := eIx_at (j := 0) (row_ix (k := M.k) (n := M.n) (r := R T) hh (eVar_d I.h8) v5) rfl rfl rfl
  have fa := f_answer (C := C) (h := h) (items := jobs h) (tl := tld) (ok.row h hh).told (Nat.le_trans (hj h hh) (by omega))
  have s1 : sAsg 16 (eCall 3 (F_answer_ofC C) (aCons (eVar 5) (aCons (eIx (eVar 4) (eVar 5)) (aCons (eIx (eIx (eIx (eVar 8) (eD (.int 1))) (eVar 5)) (eD (.int 0))) aNil)))) env = some (.nx (env.set 16 (.d (encAns h (jobs h) tld)))) :=
    sAsg_d (eCall_ok (n := 3) (v := .d (encAns h (jobs h) tld)) (vals := [.d (nI h), .d (encJob (jobs h)), .d (.tup (tld.map encTold))]) (aCons_ok v5 (aCons_ok x1 (aCons_ok x2 aNil_ok))) fa)
  let E := env.set 16 (.d (encAns h (jobs h) tld))
  have I2 : Tl a M jobs (encRoom M.k M.n (R T)) (folRun M jobs R w T).rows (.l ((looksOf M jobs R w T).map encSRow)) E := I.set 16 _ rfl
  have g16 : eVar 16 E = some (.d (encAns h (jobs h) tld)) := eVar_d (List.getElem?_set_self (by rw [I.len]; decide))
  have g5 : E[5]? = some (.d (nI h)) := by show (env.set 16 _)[5]? = _; rw [List.getElem?_set_ne (by decide)]; exact h5
  have isn : cIsN (eVar 16) (eD .non) E = some (deedAt (jobs h) tld.length).isSome := by
    unfold cIsN
    rw [t2_ok g16 (show eD .non E = some (.d .non) from rfl)]
    unfold encAns
    cases deedAt (jobs h) tld.length <;> rfl
  have nn : cNotN (eVar 16) (eD .non) E = some (!(deedAt (jobs h) tld.length).isSome) := by
    unfold cNotN
    rw [t2_ok g16 (show eD .non E = some (.d .non) from rfl)]
    unfold encAns
    cases deedAt (jobs h) tld.length <;> rfl
  have may := may_ok (fm := eVar 3) (fj := eVar 4) (fr := eVar 8) (env := E) rt hj r (eVar_d I2.h3) (eVar_d I2.h4) (eVar_d I2.h8)
  have inl := cInL_nat (fa := eVar 5) (env := E) (h := h) (eVar_d g5) may rfl
  have im : decide (h ∈ mays M jobs (R T)) = (deedAt (jobs h) tld.length).isSome := by
    rw [Bool.eq_iff_iff, decide_eq_true_eq]
    constructor
    · intro z
      exact (List.mem_filter.mp z).2
    · intro z
      exact List.mem_filter.mpr ⟨List.mem_range.mpr hh, z⟩
  have c2 : cXor (cIsN (eVar 16) (eD .non)) (cInL (eVar 5) (eCall 3 F_may_step (aCons (eVar 3) (aCons (eVar 4) (aCons (eVar 8) aNil))))) E = some false := by
    unfold cXor
    rw [isn, inl, im]
    show some ((deedAt (jobs h) tld.length).isSome != (deedAt (jobs h) tld.length).isSome) = _
    rw [bne_self_eq_false]
  have c1 : cAnd (cNotN (eVar 16) (eD .non)) (cNe (eVar 16) (eB1 gTupL (aCons (eLc (sLst (eVar 10)) (gN 19) (cEq (eIx (eVar 19) (eD (.int 0))) (eVar 5)) (eB1 gSum (aCons (eIx (eVar 19) (eD (.int 4))) aNil)) [19]) aNil))) E = some false := by
    cases hd : deedAt (jobs h) tld.length with
    | some d =>
      rw [hd] at nn
      exact cAnd_f nn
    | none =>
      rw [hd] at nn
      refine cAnd_t nn ?_
      have e16 : encAns h (jobs h) tld = tInts (toldSums tld) := by
        unfold encAns
        rw [hd]
      rw [e16] at g16
      refine cNe_same (l := toldSums tld) g16 ?_
      have hll : (looksOf M jobs R w T).length ≤ 1000 := by
        have := List.length_filter_le isLook (folRun M jobs R w T).rows
        unfold looksOf
        omega
      have lc := lc_all (src := sLst (eVar 10)) (gd := gN 19) (test := cEq (eIx (eVar 19) (eD (.int 0))) (eVar 5)) (elt := eB1 gSum (aCons (eIx (eVar 19) (eD (.int 4))) aNil)) (vs := [19]) (env := E) (l := looksOf M jobs R w T) encSRow (fun q => decide (q.h = h)) (fun q => .int (q.tl.getD []).sum)
        (by unfold sLst; rw [eVar_l I2.h10] <;> rfl) hll fun q hq => ⟨_, rfl, ?_, fun _ => ?_⟩
      · rw [eB1_ok lc]
        show some (Vl.d (.tup _)) = some (Vl.d (tInts (toldSums tld)))
        rw [show toldSums tld = _ from r.answers rt h]
        unfold tInts
        rw [List.map_map] <;> rfl
      · have g19 : eVar 19 ((wipeE E [19]).set 19 (.d (encSRow q))) = some (.d (encSRow q)) := eVar_d (List.getElem?_set_self (by rw [wipeE_length, I2.len]; decide))
        have k5 : eVar 5 ((wipeE E [19]).set 19 (.d (encSRow q))) = some (.d (nI h)) := eVar_d (by rw [List.getElem?_set_ne (by decide), wipeE_out (by decide)]; exact g5)
        have x0 : eIx (eVar 19) (eD (.int 0)) ((wipeE E [19]).set 19 (.d (encSRow q))) = some (.d (nI q.h)) := eIx_at (j := 0) g19 rfl rfl rfl
        rw [cEq_int x0 k5]
        exact congrArg some (decide_eq_decide.mpr ⟨fun z => by omega, fun z => by omega⟩)
      · have g19 : eVar 19 ((wipeE E [19]).set 19 (.d (encSRow q))) = some (.d (encSRow q)) := eVar_d (List.getElem?_set_self (by rw [wipeE_length, I2.len]; decide))
        obtain ⟨hq1, hq2⟩ := List.mem_filter.mp hq
        obtain ⟨hd2, e, he⟩ := isLook_iff.mp hq2
        obtain ⟨st, htl, _⟩ := r.look_total rt hq1 hd2 he
        have x4 := eIx_at (fb := eD (.int 4)) (j := 4) (x := encTold q.tl) g19 rfl rfl rfl
        rw [htl] at x4 ⊢
        exact sum_told x4
  exact ⟨_, sSeq_nx s1 (sSeq_nx (sIf_f c1 sNil_nx) (sIf_f c2 sNil_nx))⟩
end
end K98

/-! ## LSpec7 -/
/-! The tail of the law's loop. -/
namespace K98
open PySem PySem.Spec PyProof.Rows L2
section
variable {M : Man} {jobs : Nat → Items} {R : Nat → Rm} {w : Nat → Nat} {T : Nat} {a : Addr} {env : List Vl}
theorem set_at {env : List Vl} {i : Nat} {x : Vl} (h : i < env.length) : (env.set i x)[i]? = some x := List.getElem?_set_self h
theorem set_off {env : List Vl} {i j : Nat} {x y : Vl} (h : i ≠ j) (e : env[j]? = some y) : (env.set i x)[j]? = some y := by rw [List.getElem?_set_ne h]; exact e
theorem f_tail {C : Addr} (r : Run M jobs R w T) (rt : Right M) (hn : NonNeg M.n jobs) (hj : ∀ i, i < M.n → (jobs i).length ≤ 900) (hT : T ≤ 190) (len : env.length = 21) (h0 : env[0]? = some (.a a)) (h3 : env[3]? = some (.d (encMan M))) (h4 : env[4]? = some (.d (encJobs M.n jobs)))
    (h7 : env[7]? = some (.d (.tup (weavD w T)))) (h8 : env[8]? = some (.d (encRoom M.k M.n (R T)))) : ∃ env', b_law_tail C env = some (.nx env') ∧ env'[0]? = some (.a a) ∧ env'.length = 21 := by
  let rows := (folRun M jobs R w T).rows
  let lk := looksOf M jobs R w T
  have hl : rows.length ≤ T := fol_len r T (Nat.le_refl _)
  have hlk : lk.length ≤ rows.length := List.length_filter_le isLook rows
  have s1 : sAsg 9 (eCall 3 F_story (aCons (eVar 3) (aCons (eVar 4) (aCons (eVar 7) aNil)))) env = some (.nx (env.set 9 (.d (.tup (rows.map encSRow))))) :=
    sAsg_d (eCall_ok (n := 3) (v := .d (.tup (rows.map encSRow))) (vals := [.d (encMan M), .d (encJobs M.n jobs), .d (.tup (weavD w T))]) (aCons_ok (eVar_d h3) (aCons_ok (eVar_d h4) (aCons_ok (eVar_d h7) aNil_ok))) (f_story rt.n1 rt.n5 (kd_of rt) hj (by omega) r))
  let E1 := env.set 9 (.d (.tup (rows.map encSRow)))
  have e9 : E1[9]? = some (.d (.tup (rows.map encSRow))) := set_at (by rw [len]; decide)
  have lc : eLc (sTup (eVar 9)) (gN 19) (cAnd (cEq (eIx (eVar 19) (eD (.int 1))) (eTup (aCons (eD (.str "look")) aNil))) (cNotN (eIx (eVar 19) (eD (.int 3))) (eD .non))) (eVar 19) [19] E1 = some (.o (lk.map encSRow)) := by
    refine lc_all (l := rows) encSRow isLook encSRow ?_ (by omega) fun q _ => ⟨_, rfl, look_test ?_, fun _ => ?_⟩
    · unfold sTup
      rw [eVar_d e9] <;> rfl
    · exact set_at (by rw [wipeE_length, List.length_set, len]; decide)
    · exact eVar_d (set_at (by rw [wipeE_length, List.length_set, len]; decide))
  have s2 : sAsg 10 (eLc (sTup (eVar 9)) (gN 19) (cAnd (cEq (eIx (eVar 19) (eD (.int 1))) (eTup (aCons (eD (.str "look")) aNil))) (cNotN (eIx (eVar 19) (eD (.int 3))) (eD .non))) (eVar 19) [19]) E1 = some (.nx (E1.set 10 (.o (lk.map encSRow)))) := sAsg_o lc
  let E2 := E1.set 10 (.o (lk.map encSRow))
  have len2 : E2.length = 21 := by show ((env.set 9 _).set 10 _).length = 21; rw [List.length_set, List.length_set, len]
  have I3 : Tl a M jobs (encRoom M.k M.n (R T)) rows (.l (lk.map encSRow)) (E2.set 10 (.l (lk.map encSRow))) := by
    refine ⟨by rw [List.length_set]; exact len2, ?_, ?_, ?_, ?_, ?_, set_at (by rw [len2]; decide)⟩
    · exact set_off (by decide) (set_off (by decide) (set_off (by decide) h0))
    · exact set_off (by decide) (set_off (by decide) (set_off (by decide) h3))
    · exact set_off (by decide) (set_off (by decide) (set_off (by decide) h4))
    · exact set_off (by decide) (set_off (by decide) (set_off (by decide) h8))
    · exact set_off (by decide) (set_off (by decide) e9)
  obtain ⟨E4, f1, I4⟩ := forM_inv (gd := gP [5, 11, 12, 13, 14]) (body := chkB) (fun _ env => Tl a M jobs (encRoom M.k M.n (R T)) rows (.l (lk.map encSRow)) env) (lk.map encSRow) 0 _ I3 fun j d env hd I => by
    rw [List.getElem?_map] at hd
    obtain ⟨q, hq, rfl⟩ := Option.map_eq_some_iff.mp hd
    have hq := List.mem_of_getElem? hq
    let F := (((((env.set 5 (.d (nI q.h))).set 11 (.d (encDeed q.h q.d))).set 12 (.d (nI q.b))).set 13 (.d (optN q.e))).set 14 (.d (encTold q.tl)))
    have IF : Tl a M jobs (encRoom M.k M.n (R T)) rows (.l (lk.map encSRow)) F := ((((I.set 5 _ rfl).set 11 _ rfl).set 12 _ rfl).set 13 _ rfl).set 14 _ rfl
    obtain ⟨x, hx⟩ := chk_ok (env := F) r rt hn hT hq IF (set_off (by decide) (set_off (by decide) (set_at (by simp only [List.length_set]; rw [I.len]; decide)))) (set_off (by decide) (set_at (by simp only [List.length_set]; rw [I.len]; decide))) (set_at (by simp only [List.length_set]; rw [I.len]; decide))
    exact ⟨F, _, rfl, hx, IF.set 15 x rfl⟩
  have s3 : sForV 10 (gP [5, 11, 12, 13, 14]) chkB E2 = some (.nx E4) := by
    unfold sForV
    rw [show E2[10]? = some (.o (lk.map encSRow)) from set_at (by show 10 < (env.set 9 _).length; rw [List.length_set, len]; decide)]
    exact f1
  obtain ⟨E5, f2, I5⟩ := forM_inv (gd := gN 5) (body := ansB C) (fun _ env => Tl a M jobs (encRoom M.k M.n (R T)) rows (.l (lk.map encSRow)) env) ((List.range M.n).map fun (i : Nat) => D.int (i : Int)) 0 _ I4 fun j d env hd I => by
    rw [List.getElem?_map] at hd
    obtain ⟨h, hh, rfl⟩ := Option.map_eq_some_iff.mp hd
    have hh := List.mem_range.mp (List.mem_of_getElem? hh)
    obtain ⟨x, hx⟩ := ans_ok (C := C) (env := env.set 5 (.d (nI h))) r rt hj hT hh (I.set 5 _ rfl) (set_at (by rw [I.len]; decide))
    exact ⟨_, _, rfl, hx, (I.set 5 _ rfl).set 16 x rfl⟩
  have s4 : sFor (sRng1 (aCons (eIx (eVar 3) (eD (.int 1))) aNil)) (gN 5) (ansB C) E4 = some (.nx E5) := by
    unfold sFor
    rw [sRng1_at (n := M.n) (by have := rt.n5; omega) (man1 (k := M.k) (n := M.n) (i := 3) I4.h3)]
    exact f2
  exact ⟨E5, sSeq_nx s1 (sSeq_nx s2 (sSeq_nx s3 s4)), I5.h0, I5.len⟩
end
end K98

/-! ## LawHand -/
/-! _law_hand. -/
namespace K98
open PySem PySem.Spec PyProof.Rows L2
def N_law_hand : List PySem.Str := ["_law_script", "_law_k", "_law_cell"]
theorem sc_law_hand : FnScope N_law_hand ["_law_script", "_law_k"] (defScope s_law_hand) := ⟨rfl, rfl, rfl, by decide +kernel, rfl, by decide +kernel, by decide +kernel⟩
/-- a script of ints and a small place: a new list of three -/
def spHand (K : PySem.W.Frag) : Sp := fun vs H Q _ => ∃ (l : Addr) (ns : List Int) (k : Nat), vs = [.ref l, .int (k : Int)] ∧ SqL K H l (ns.map V.int) ∧ k ≤ 3 ∧
  ∀ (x y : Int) (q : Addr) (H' : Hp), 0 ≤ x → 0 ≤ y → y < 2 ^ 62 → Same H H' → H q = none → HandAt H' q [x, y, 0] → Q (.ref q) H'
theorem hand_y {c : Int} {k : Nat} (hk : k ≤ 3) : 0 ≤ c % 2305843009213693951 + 7919 * (k : Int) + 3 ∧ c % 2305843009213693951 + 7919 * (k : Int) + 3 < 2 ^ 62 := by
  have h1 : 0 ≤ c % 2305843009213693951 := Int.emod_nonneg c (by decide)
  have h2 : c % 2305843009213693951 < 2305843009213693951 := Int.emod_lt_of_pos c (by decide)
  omega
theorem hand_x {c : Int} : 0 ≤ c * (if decide ((10 : Int) ^ ((18 : Int).toNat) ≤ c) = true then 1 else 0) := by
  split
  · rename_i h
    have h := of_decide_eq_true h
    have h2 : (0 : Int) ≤ (10 : Int) ^ ((18 : Int).toNat) := by decide
    omega
  · omega
theorem ok_law_hand {P : Program} {w : World} {K : PySem.W.Frag} {mg : PySem.Str → Option Value} {base : Heap} (T : Top K mg) : ∃ (ft : Addr) (fd : FuncData), FnOk P w K mg base CX0 1 ft fd ["_law_script", "_law_k"] (spHand K) ∧ mg "_law_hand" = some (.ref ft) ∧ PySem.W.keepIn K (.ref ft) = true ∧ Binds K fd ["_law_script", "_law_k"] [] := by
  obtain ⟨ft, fd, FD, hm⟩ := T.law_hand
  refine ⟨ft, fd, FD.ok sc_law_hand (fun vs H Q E h => ?_) (fun cdv A outer s H vs Q E hr h => ?_), hm, FD.kp, FD.bindsN fun _ _ _ _ _ _ us hl => match us, hl with | [_, _], _ => rfl⟩
  · obtain ⟨l, ns, k, rfl, _⟩ := h
    rfl
  · refine ⟨_, pss_cons (ps_set (i := 2) sc_law_hand.nd rfl (.inl rfl) pe_int)
      (pss_cons (ps_if (pt_cmpR op_lt (pv 1) (pe_callB call_len rfl T.b_len boot_len (pa_cons (pv 0) pa_nil)) rfl) (pss_one (ps_set (i := 2) sc_law_hand.nd rfl (.inl rfl) (pe_ix ix_seq (pv 0) (pv 1) (fun _ _ => rfl)))) pss_nil)
      (pss_one (ps_ret (pe_lst (pa_cons (pe_op op_mul (pv 2) (pe_callTy call_int1 rfl T.b_int PyProof.Rows.boot_int (pa_cons (pe_cmpR op_ge (pv 2) (pe_op op_pow pe_int pe_int) rfl) pa_nil)))
        (pa_cons (pe_op op_add (pe_op op_add (pe_op op_mod (pv 2) pe_int) (pe_op op_mul pe_int (pv 1))) pe_int) (pa_cons pe_int pa_nil))))))), ?_⟩
    obtain ⟨l, ns, k, rfl, hs, hk, q⟩ := h
    have fin : ∀ c : Int, ∀ σ : L2.St, σ[1]? = some (some (.int (k : Int))) → σ[2]? = some (some (.int c)) → tRet (tLst (tCons (tOp (rI CMul fun i j => .int (i * j)) (tVar 2) (tCB (fun xs H Q => (∃ i, xs = [.int i] ∧ Q (.int i) H) ∨ ∃ k, xs = [.bl k] ∧ Q (.int (if k then 1 else 0)) H) (tCons (tOp (rI0 fun i j => .bl (decide (j ≤ i))) (tVar 2) (tOp (rI CPow fun i j => .int (i ^ j.toNat)) (tC (.int 10)) (tC (.int 18)))) tNil)))
        (tCons (tOp (rI0 fun i j => .int (i + j)) (tOp (rI0 fun i j => .int (i + j)) (tOp (rI (fun _ j => 0 < j) fun i j => .int (i % j)) (tVar 2) (tC (.int 2305843009213693951))) (tOp (rI CMul fun i j => .int (i * j)) (tC (.int 7919)) (tVar 1))) (tC (.int 3))) (tCons (tC (.int 0)) tNil)))) { nx := fun _ H' => Q .non H', rt := Q } σ H := fun c σ h1 h2 => by
      refine ⟨_, h2, _, h2, 10, 18, rfl, rfl, ⟨by decide, by decide, by decide⟩, c, _, rfl, rfl, .inr ⟨_, rfl, ?_⟩⟩
      refine ⟨c, _, rfl, rfl, .inr ?_, ?_⟩
      · split <;> decide
      refine ⟨_, h2, c, _, rfl, rfl, (show (0 : Int) < 2305843009213693951 by decide), ?_⟩
      refine ⟨_, h1, 7919, _, rfl, rfl, .inl (by decide), ?_⟩
      refine ⟨_, _, rfl, rfl, ⟨_, _, rfl, rfl, ⟨by show 3 ≤ sizeLine; rw [sizeLine_eq]; omega, fun p hp => ?_⟩⟩⟩
      exact q _ _ p _ hand_x (hand_y hk).1 (hand_y hk).2 (same_new hp) hp upd_same
    have s0 : (L2.start N_law_hand [V.ref l, V.int (k : Int)])[0]? = some (some (V.ref l)) := rfl
    refine ⟨_, rfl, _, rfl, ⟨_, _, rfl, .inl ⟨_, hs, rfl⟩, ⟨_, _, rfl, rfl, ⟨_, rfl, ?_⟩⟩⟩⟩
    show if decide ((k : Int) < (((ns.map V.int).length : Nat) : Int)) = true then _ else _
    by_cases hj : k < ns.length
    · have hd : decide ((k : Int) < (((ns.map V.int).length : Nat) : Int)) = true := decide_eq_true (by rw [List.length_map]; omega)
      rw [if_pos hd]
      exact ⟨_, rfl, _, rfl, .inl ⟨l, _, _, _, rfl, rfl, hs, atI_hand (List.getElem?_eq_getElem hj), fin _ _ rfl rfl⟩⟩
    · have hd : ¬ decide ((k : Int) < (((ns.map V.int).length : Nat) : Int)) = true := fun z => by
        have z2 := of_decide_eq_true z
        rw [List.length_map] at z2
        omega
      rw [if_neg hd]
      exact fin 0 _ rfl rfl
end K98

/-! ## LawMain -/
namespace K98
open PySem PySem.Spec PyProof.Rows L2

/-- what the loop's body is read as -/
def Iter (C : Addr) : Prop := ∀ (p a : Addr) (k : Nat) (x y : Int), k ≤ 3 → 0 ≤ x → 0 ≤ y → y < 2 ^ 62 → ∃ env' hd', b_law C p ([.a a, .d (.int (k : Int)), .a p] ++ List.replicate 18 .un) [x, y, 0] = some (.nx env' hd') ∧ env'[0]? = some (.a a) ∧ env'.length = 21
/-- the law: a script of at most 63 ints -/
def spLaw (K : PySem.W.Frag) : Sp := fun vs H Q _ => ∃ (l : Addr) (ns : List Int), vs = [.ref l] ∧ SqL K H l (ns.map V.int) ∧ ns.length ≤ 63 ∧ ∀ H', Q (.bl true) H'
theorem env_un {K : PySem.W.Frag} {H0 H : Hp} {σ : L2.St} {a p : Addr} {k : Int} (hl : σ.length = 21) (h0 : σ[0]? = some (some (.ref a))) (h1 : σ[1]? = some (some (.int k))) (h2 : σ[2]? = some (some (.ref p))) : EnvOk K H0 H σ ([.a a, .d (.int k), .a p] ++ List.replicate 18 .un) := by
  have cs : ∀ {i : Nat} {x : Vl}, ([Vl.a a, .d (.int k), .a p] ++ List.replicate 18 .un)[i]? = some x → x = .un ∨ (i = 0 ∧ x = .a a) ∨ (i = 1 ∧ x = .d (.int k)) ∨ (i = 2 ∧ x = .a p) := fun {i x} e => by
    match i with
    | 0 => cases e; exact .inr (.inl ⟨rfl, rfl⟩)
    | 1 => cases e; exact .inr (.inr (.inl ⟨rfl, rfl⟩))
    | 2 => cases e; exact .inr (.inr (.inr ⟨rfl, rfl⟩))
    | i + 3 =>
      rw [List.getElem?_append_right (by simp)] at e
      exact .inl (List.mem_replicate.mp (List.mem_of_getElem? e)).2
  refine ⟨by rw [hl]; rfl, fun i x e n => ?_, fun i j x y _ ex _ ox _ => ?_, fun i x e => ?_⟩
  · rcases cs e with z | ⟨rfl, rfl⟩ | ⟨rfl, rfl⟩ | ⟨rfl, rfl⟩
    · exact absurd z n
    · exact ⟨_, h0, rfl⟩
    · exact ⟨_, h1, Rep.int k⟩
    · exact ⟨_, h2, rfl⟩
  · rcases cs ex with rfl | ⟨rfl, rfl⟩ | ⟨rfl, rfl⟩ | ⟨rfl, rfl⟩ <;> cases ox
  · rcases cs e with rfl | ⟨rfl, rfl⟩ | ⟨rfl, rfl⟩ | ⟨rfl, rfl⟩ <;> rfl
theorem far_un {σ : L2.St} {a p : Addr} {k : Int} : Far p σ ([.a a, .d (.int k), .a p] ++ List.replicate 18 .un) := fun j x e hl => by
  match j with
  | 0 => cases e; cases hl
  | 1 => cases e; cases hl
  | 2 => cases e; cases hl
  | i + 3 =>
    rw [List.getElem?_append_right (by simp)] at e
    rw [(List.mem_replicate.mp (List.mem_of_getElem? e)).2] at hl
    cases hl
theorem law_body {P : Program} {w : World} {K : PySem.W.Frag} {mg : PySem.Str → Option Value} {base : Heap} {C : Addr} {ft : Addr} {fd : FuncData} (T : Top K mg) (B : Bun P w K mg base C) (I : Iter C)
    (FD : FnP K "law" s_law ft fd) : FnOk P w K mg base CX0 12 ft fd ["_law_script"] (spLaw K) := by
  have c_law_take := ok_law_take (P := P) (w := w) (base := base) T B
  have c_law_pick := ok_law_pick T B c_law_take
  have c_law_right_manner := ok_law_right_manner T B c_law_pick c_law_take
  have c_law_woven := ok_law_woven T B c_law_pick c_law_take
  obtain ⟨fh, fhd, h1, h2, h3, h4⟩ := ok_law_hand (P := P) (w := w) (base := base) T
  refine FD.ok sc_law (fun vs H Q E h => ?_) fun cdv A outer s H vs Q E hr h => ?_
  · obtain ⟨l, ns, rfl, _⟩ := h
    rfl
  have hu : (A.deeper (envOfC "law" (defScope s_law) s.heap.objs.size ft cdv)).units + 100 < cLine := by have := hr.un; omega
  refine ⟨_, PSs.nox (pss_cons (ps_for PassesOwn.never rfl
      (pi_range1 rfl T.b_range (pa_cons (pe_op op_add pe_int (pe_callB (call_min2 rfl) rfl T.b_min PyProof.Rows.boot_min (pa_cons pe_int (pa_cons (pe_callB call_len rfl T.b_len boot_len (pa_cons (pe_var (i := 0) rfl (.inl rfl)) pa_nil)) pa_nil)))) pa_nil))
      (pg_name (i := 1) sc_law.nd rfl (.inl rfl))
      (pss_cons (ps_set (i := 2) sc_law.nd rfl (.inr rfl) (pe_call h1 (hr.mono (by decide)) rfl h2 h3 h4 .nil pass0 (pa_cons (pe_var (i := 0) rfl (.inl rfl)) (pa_cons (pe_var (i := 1) rfl (.inl rfl)) pa_nil))))
        (pss_ex (t := fun p => tB K p (b_law C p)) fun p => (bs_cons (b_asg (i := 3) sc_law.nd (m_call (i := 2) c_law_right_manner rfl hr (by decide) rfl (mx_D (a'_cons d_int a'_nil))))
    (bs_cons (b_D (s_set (i := 4) sc_law.nd (d_lst a_nil)))
    (bs_cons (b_for (i := 5) PassesOwn.never rfl rfl T.b_range (mx_D (a'_cons (d_ix rfl (d_var 3) d_int) a'_nil)) sc_law.nd (bs_cons (b_lc (i := 6) (j := 17) rfl sc_law.nd rfl rfl (sw_true rfl rfl rfl rfl) rfl T.b_range (mx_M (m_call (i := 2) c_law_take rfl hr (by decide) rfl (mx_D (a'_cons d_int a'_nil)))) (blkOk_by (own := [("_law_k", 17)]) rfl) rfl (by decide) (fun _ _ _ _ _ => pg_name (i := 17) sc_law.nd rfl (by first | exact Or.inl rfl | exact Or.inr rfl)) (fun _ _ _ _ _ => (m_call (i := 2) c_law_pick rfl hr (by decide) rfl (mx_D (a'_cons (d_lst (a_cons d_non (a_cons d_non (a_cons d_int (a_cons d_int (a_cons d_int (a_cons d_int a_nil))))))) a'_nil)))))
    (bs_one (b_D (s_app (i := 4) rfl (a_cons (d_tup (a_cons d_str (a_cons (d_tupL rfl rfl T.b_tuple (a_cons (d_var 6) a_nil)) a_nil))) a_nil))))))
    (bs_cons (b_D (s_set (i := 4) sc_law.nd (d_tupL rfl rfl T.b_tuple (a_cons (d_var 4) a_nil))))
    (bs_cons (b_unp (is := [7, 8]) rfl rfl (gs_cons (i := 7) sc_law.nd (gs_cons (i := 8) sc_law.nd gs_nil)) (m_call (i := 2) c_law_woven rfl hr (by decide) rfl (mx_D (a'_cons (d_var 3) (a'_cons (d_var 4) (a'_cons d_int a'_nil))))))
    (bs_D (ss_cons (s_set (i := 9) sc_law.nd (d_call B.story rfl hr (by decide) rfl (a_cons (d_var 3) (a_cons (d_var 4) (a_cons (d_var 7) a_nil)))))
    (ss_cons (s_setLc (i := 10) rfl sc_law.nd rfl rfl (sw_true rfl rfl rfl rfl) (i_tup rfl (d_var 9)) (blkOk_by (own := [("_law_row", 19)]) rfl) rfl (ow := false) (idx := [19]) (by decide) (fun _ _ _ _ _ => (g_name (i := 19) sc_law.nd)) (fun _ _ _ _ _ => (ts_one (PW.pt (cw_and (ct_eq rfl hu (d_ix rfl (d_var 19) d_int) (d_tup (a_cons d_str a_nil))) (cw_and1 (ct_notN (d_ix rfl (d_var 19) d_int) d_non)))))) (fun _ _ _ _ _ => (d_var 19)))
    (ss_cons (s_forV (i := 10) rfl PassesOwn.never rfl (g_tup (is := [5, 11, 12, 13, 14]) rfl rfl (gs_cons (i := 5) sc_law.nd (gs_cons (i := 11) sc_law.nd (gs_cons (i := 12) sc_law.nd (gs_cons (i := 13) sc_law.nd (gs_cons (i := 14) sc_law.nd gs_nil)))))) (ss_cons (s_setLc (i := 15) rfl sc_law.nd rfl rfl (sw_true rfl rfl rfl rfl) (i_rng2 rfl T.b_range (a_cons (d_var 12) (a_cons (d_add (d_var 13) d_int) a_nil))) (blkOk_by (own := [("_law_t", 20)]) rfl) rfl (ow := false) (idx := [20]) (by decide) (fun _ _ _ _ _ => (g_name (i := 20) sc_law.nd)) (fun _ _ _ _ _ => ts_nil) (fun _ _ _ _ _ => (d_call B.law_total rfl hr (by decide) rfl (a_cons (d_var 9) (a_cons (d_var 20) a_nil)))))
    (ss_cons (s_if (ct_notInL rfl hu (d_sum rfl rfl rfl T.b_sum (a_cons (d_var 14) a_nil)) (d_var 15)) (ss_one s_never) ss_nil)
    (ss_one (s_if (ct_any rfl rfl sc_law.nd rfl T.b_any (i_lst rfl (d_var 10)) (blkOk_by (own := [("_law_other", 18)]) rfl) rfl (ow := false) (idx := [18]) (by decide) (fun _ _ _ _ _ => (g_name (i := 18) sc_law.nd)) (fun _ _ _ _ _ => (bv_and (bv_le (d_ix rfl (d_var 18) d_int) (d_var 12)) (bv_gt (d_sum rfl rfl rfl T.b_sum (a_cons (d_ix rfl (d_var 18) d_int) a_nil)) (d_sum rfl rfl rfl T.b_sum (a_cons (d_var 14) a_nil)))))) (ss_one s_never) ss_nil)))))
    (ss_one (s_for PassesOwn.never rfl (i_rng1 rfl T.b_range (a_cons (d_ix rfl (d_var 3) d_int) a_nil)) (g_name (i := 5) sc_law.nd) (ss_cons (s_set (i := 16) sc_law.nd (d_call B.answer_ofC rfl hr (by decide) rfl (a_cons (d_var 5) (a_cons (d_ix rfl (d_var 4) (d_var 5)) (a_cons (d_ix rfl (d_ix rfl (d_ix rfl (d_var 8) d_int) (d_var 5)) d_int) a_nil)))))
    (ss_cons (s_if (PW.pt (cw_and (ct_notN (d_var 16) d_non) (cw_and1 (ct_ne rfl hu (d_var 16) (d_tupL rfl rfl T.b_tuple (a_cons (d_lc rfl sc_law.nd (i_lst rfl (d_var 10)) (blkOk_by (own := [("_law_row", 19)]) rfl) rfl (ow := false) (idx := [19]) (by decide) (fun _ _ _ _ _ => (g_name (i := 19) sc_law.nd)) (fun _ _ _ _ _ => (ts_one (ct_eq rfl hu (d_ix rfl (d_var 19) d_int) (d_var 5)))) (fun _ _ _ _ _ => (d_sum rfl rfl rfl T.b_sum (a_cons (d_ix rfl (d_var 19) d_int) a_nil)))) a_nil)))))) (ss_one s_never) ss_nil)
    (ss_one (s_if (ct_xor rfl hu (bv_isN (d_var 16) d_non) (bv_inL rfl hu (d_var 5) (d_call B.may_step rfl hr (by decide) rfl (a_cons (d_var 3) (a_cons (d_var 4) (a_cons (d_var 8) a_nil)))))) (ss_one s_never) ss_nil))))))))))))))))))
    (pss_one (ps_ret pe_bl))), ?_⟩
  obtain ⟨l, ns, rfl, hs, hn, q⟩ := h
  have hj : (if ((((ns.map V.int).length : Nat) : Int) < 3) then (((ns.map V.int).length : Nat) : Int) else 3) ≤ 3 ∧ 0 ≤ (if ((((ns.map V.int).length : Nat) : Int) < 3) then (((ns.map V.int).length : Nat) : Int) else 3) := by split <;> omega
  refine ⟨_, rfl, _, _, rfl, .inl ⟨_, hs, rfl⟩, _, _, rfl, _, _, rfl, rfl, _, rfl, by omega, by omega, ?_⟩
  refine for_it walk_range (fun k σ H' => Same H H' ∧ σ.length = 21 ∧ σ[0]? = some (some (.ref l))) ⟨Same.refl H, rfl, rfl⟩ (fun _ _ _ _ _ => trivial) ?_ ?_
  · rintro k y σ H1 H2 hk ⟨s1, hlen, h0⟩ ⟨rfl, rfl⟩
    have hk3 : k ≤ 3 := by omega
    have h01 : (σ.set 1 (some (V.int (0 + (k : Int)))))[0]? = some (some (.ref l)) := by rw [List.getElem?_set_ne (by decide)]; exact h0
    have h11 : (σ.set 1 (some (V.int (0 + (k : Int)))))[1]? = some (some (.int (k : Int))) := by rw [List.getElem?_set_self (by omega), Int.zero_add]
    refine ⟨_, h01, _, h11, ⟨l, ns, k, rfl, Same.seq s1 hs, hk3, fun x yy pq H3 hx hy1 hy2 s3 hf hh => ?_⟩⟩
    obtain ⟨env', hd', e1, e2, e3⟩ := I pq l k x yy hk3 hx hy1 hy2
    refine ⟨pq, H2, _, [x, yy, 0], _, ⟨s3, ?_, hf, far_un, hh⟩, e1, fun σ' H' st' t' => ⟨s1.trans st'.s0, ?_, ?_⟩⟩
    · exact env_un (by rw [List.length_set, List.length_set]; exact hlen) (by rw [List.getElem?_set_ne (by decide)]; exact h01) (by rw [List.getElem?_set_ne (by decide)]; exact h11) (List.getElem?_set_self (by rw [List.length_set]; omega))
    · rw [st'.ok.len, e3]
    · obtain ⟨v, g1, g2⟩ := st'.ok.at_ 0 _ e2 (by intro z; cases z)
      cases (show v = .ref l from g2)
      exact g1
  · rintro σ H1 ⟨s1, hlen, h0⟩
    exact q H1
end K98

/-! ## LSpec8 -/
/-! The law's loop: drawn jobs, and the whole. -/
namespace K98
open PySem PySem.Spec PyProof.Rows L2
theorem all_set {env : List Vl} {i : Nat} {x : Vl} (h : env.all noL = true) (hx : noL x = true) : (env.set i x).all noL = true := by
  rw [List.all_eq_true] at h ⊢
  intro y hy
  rcases List.mem_or_eq_of_mem_set hy with z | z
  · exact h y z
  · rw [z]; exact hx
theorem eLst_items (env : List Vl) : aCons (eLst (aCons (eD .non) (aCons (eD .non) (aCons (eD (.int 1)) (aCons (eD (.int 5)) (aCons (eD (.int 9)) (aCons (eD (.int 0)) aNil))))))) aNil env = some [.o [.non, .non, .int 1, .int 5, .int 9, .int 0]] := rfl
def itemM (p : Addr) : RM := mCall p 2 1 F_law_pick (xD (aCons (eLst (aCons (eD .non) (aCons (eD .non) (aCons (eD (.int 1)) (aCons (eD (.int 5)) (aCons (eD (.int 9)) (aCons (eD (.int 0)) aNil))))))) aNil))
theorem item_ok {B : Int} {hd : List Int} {p : Addr} {env : List Vl} (ok : HdOk B hd) (hB : B < 1000000) (h2 : env[2]? = some (.a p)) : ∃ o hd', itemM p env hd = some (encItem o, hd') ∧ (∀ i, o = some i → 0 ≤ i) ∧ HdOk (B + 1) hd' := by
  obtain ⟨d, hd', e1, m, ok'⟩ := f_pick p ok hB (xs := [.non, .non, .int 1, .int 5, .int 9, .int 0]) (by simp) (by simp)
  have e2 : itemM p env hd = some (d, hd') := mCall_ok (vals := [.o [.non, .non, .int 1, .int 5, .int 9, .int 0]]) h2 (xD_ok (eLst_items env) rfl) ⟨rfl, rfl⟩ e1
  simp only [List.mem_cons, List.not_mem_nil, or_false] at m
  rcases m with rfl | rfl | rfl | rfl | rfl | rfl
  · exact ⟨none, hd', e2, fun i e => (by cases e), ok'⟩
  · exact ⟨none, hd', e2, fun i e => (by cases e), ok'⟩
  · exact ⟨some 1, hd', e2, fun i e => (by cases e; decide), ok'⟩
  · exact ⟨some 5, hd', e2, fun i e => (by cases e; decide), ok'⟩
  · exact ⟨some 9, hd', e2, fun i e => (by cases e; decide), ok'⟩
  · exact ⟨some 0, hd', e2, fun i e => (by cases e; decide), ok'⟩
theorem items_ok {p : Addr} {envw : List Vl} (h2 : envw[2]? = some (.a p)) : ∀ (n k : Nat) (B : Int) (hd : List Int), HdOk B hd → B + n < 1000000 → ∃ (its : Items) (hd' : List Int), lcB 17 (itemM p) envw n k hd = some (its.map encItem, hd') ∧ its.length = n ∧ (∀ i, some i ∈ its → 0 ≤ i) ∧ HdOk (B + n) hd'
  | 0, k, B, hd, ok, _ => ⟨[], hd, rfl, rfl, fun i h => (by cases h), ok.mono (by omega)⟩
  | n + 1, k, B, hd, ok, hB => by
    obtain ⟨o, hd1, e1, o1, ok1⟩ := item_ok (env := envw.set 17 (.d (.int (k : Nat)))) ok (by omega) (set_off (by decide) h2)
    obtain ⟨its, hd2, e2, l2, n2, ok2⟩ := items_ok h2 n (k + 1) (B + 1) hd1 ok1 (by omega)
    refine ⟨o :: its, hd2, ?_, by rw [List.length_cons, l2], fun i h => ?_, ok2.mono (by omega)⟩
    · unfold lcB
      rw [e1]
      show (lcB 17 (itemM p) envw n (k + 1) hd1).map _ = _
      rw [e2] <;> rfl
    · rcases List.mem_cons.mp h with z | z
      · exact o1 i z.symm
      · exact n2 i z
theorem bLc_ok {i j n : Nat} {vs : List Nat} {src : RMx} {elt : RM} {env : List Vl} {hd h1 h2 : List Int} {ds : List D} (e1 : src env hd = some ([.d (nI n)], h1)) (hn : n ≤ 1000) (e2 : lcB j elt (wipeE env vs) n 0 h1 = some (ds, h2)) : bLc i j vs src elt env hd = some (.nx ((wipeE env vs).set i (.o ds)) h2) := by
  have e3 : ∀ (o : Option (List Vl × List Int)), o = some ([.d (nI n)], h1) → (o.bind fun r => (rngN r.1).bind fun n => if n ≤ 1000 then (lcB j elt (wipeE env vs) n 0 r.2).map fun t => OutM.nx ((wipeE env vs).set i (.o t.1)) t.2 else none) = (rngN [.d (nI n)]).bind fun n => if n ≤ 1000 then (lcB j elt (wipeE env vs) n 0 h1).map fun t => OutM.nx ((wipeE env vs).set i (.o t.1)) t.2 else none := fun o ho => by
    subst ho
    exact Option.bind_some _ _
  unfold bLc
  rw [e3 _ e1, rngN_ok2 hn, Option.bind_some, if_pos hn, e2] <;> rfl
def jobB (p : Addr) : RB := bSeq (bLc 6 17 [17] (xM (mCall p 2 1 F_law_take (xD (aCons (eD (.int 7)) aNil)))) (itemM p)) (lft (sApp 4 (aCons (eTup (aCons (eD (.str "sums")) (aCons (eB1 gTupL (aCons (eVar 6) aNil)) aNil))) aNil)))
structure Jb (M : Man) (a p : Addr) (B : Int) (j : Nat) (env : List Vl) (hd : List Int) : Prop where
  ex : ∃ its : List Items, its.length = j ∧ (∀ i, i ∈ its → i.length ≤ 6 ∧ ∀ v, some v ∈ i → 0 ≤ v) ∧ env[4]? = some (.o (its.map encJob))
  len : env.length = 21
  h0 : env[0]? = some (.a a)
  h2 : env[2]? = some (.a p)
  h3 : env[3]? = some (.d (encMan M))
  noL : env.all noL = true
  hd : HdOk (B + 7 * j) hd
theorem job_ok {M : Man} {a p : Addr} {B : Int} (hB : B < 900000) {j : Nat} (hj : j ≤ 5) {env : List Vl} {hd : List Int} (J : Jb M a p B j env hd) : ∃ e h, jobB p (env.set 5 (.d (.int (j : Nat)))) hd = some (.nx e h) ∧ Jb M a p B (j + 1) e h := by
  obtain ⟨⟨its, il, hi, h4⟩, len, h0, h2, h3, nl, ok⟩ := J
  obtain ⟨t, hd1, e1, t0, t7, ok1⟩ := f_take p ok (by omega) (n := 7) (by omega) (by omega)
  let E := env.set 5 (.d (.int (j : Nat)))
  have lenE : E.length = 21 := by show (env.set 5 _).length = 21; rw [List.length_set, len]
  have E2 : E[2]? = some (.a p) := set_off (by decide) h2
  have W2 : (wipeE E [17])[2]? = some (.a p) := by rw [wipeE_out (by decide)]; exact E2
  obtain ⟨items, hd2, e2, l2, n2, ok2⟩ := items_ok W2 t.toNat 0 (B + 7 * j + 1) hd1 ok1 (by omega)
  have src : xM (mCall p 2 1 F_law_take (xD (aCons (eD (.int 7)) aNil))) E hd = some ([.d (nI t.toNat)], hd1) := by
    rw [← ri_int t0]
    exact xM_ok (mCall_ok (vals := [.d (.int 7)]) E2 rfl ⟨rfl, rfl⟩ e1)
  have s1 := bLc_ok (i := 6) (j := 17) (vs := [17]) (elt := itemM p) src (by omega) e2
  let F := (wipeE E [17]).set 6 (.o (items.map encItem))
  have lenF : F.length = 21 := by show ((wipeE E [17]).set 6 _).length = 21; rw [List.length_set, wipeE_length, lenE]
  have F6 : F[6]? = some (.o (items.map encItem)) := set_at (by rw [wipeE_length, lenE]; decide)
  have F4 : F[4]? = some (.o (its.map encJob)) := set_off (by decide) (by rw [wipeE_out (by decide)]; exact set_off (by decide) h4)
  have tup : aCons (eTup (aCons (eD (.str "sums")) (aCons (eB1 gTupL (aCons (eVar 6) aNil)) aNil))) aNil F = some [.d (encJob items)] :=
    aCons_ok (eTup_ok (ds := [.str "sums", .tup (items.map encItem)]) (aCons_ok rfl (aCons_ok ((eB1_ok (h := gTupL) (eVar_o F6)).trans rfl) aNil_ok)) rfl (by simp)) aNil_ok
  have s2 : sApp 4 (aCons (eTup (aCons (eD (.str "sums")) (aCons (eB1 gTupL (aCons (eVar 6) aNil)) aNil))) aNil) F = some (.nx (F.set 4 (.o (its.map encJob ++ [encJob items])))) := sApp_ok F4 tup (by rw [List.length_map]; omega)
  have nlF : F.all noL = true := by
    have nlE : E.all noL = true := all_set nl rfl
    exact all_set (show (wipeE E [17]).all noL = true from all_set nlE rfl) rfl
  refine ⟨F.set 4 (.o (its.map encJob ++ [encJob items])), hd2, bSeq_nx s1 (lft_nx s2 (all_set nlF rfl)), ⟨its ++ [items], by rw [List.length_append, il] <;> rfl, fun i hm => ?_, ?_⟩, by rw [List.length_set]; exact lenF, ?_, ?_, ?_, all_set nlF rfl, ok2.mono (by omega)⟩
  · rcases List.mem_append.mp hm with z | z
    · exact hi i z
    · rw [List.mem_singleton] at z
      subst z
      exact ⟨by omega, n2⟩
  · rw [List.map_append]
    exact set_at (by rw [lenF]; decide)
  · exact set_off (by decide) (set_off (by decide) (by rw [wipeE_out (by decide)]; exact set_off (by decide) h0))
  · exact set_off (by decide) (set_off (by decide) W2)
  · exact set_off (by decide) (set_off (by decide) (by rw [wipeE_out (by decide)]; exact set_off (by decide) h3))
theorem jobs_enc {n : Nat} {its : List Items} (h : its.length = n) : D.tup (its.map encJob) = encJobs n fun i => its.getD i [] := by
  unfold encJobs
  congr 1
  apply List.ext_getElem?
  intro i
  rw [List.getElem?_map, List.getElem?_map]
  by_cases hi : i < n
  · rw [List.getElem?_range hi, List.getElem?_eq_getElem (by omega)]
    show some (encJob its[i]) = some (encJob (its.getD i []))
    rw [List.getD_eq_getElem?_getD, List.getElem?_eq_getElem (by omega)] <;> rfl
  · rw [List.getElem?_eq_none (by omega), List.getElem?_eq_none (by rw [List.length_range]; omega)] <;> rfl
theorem iter (C : Addr) : Iter C := fun p a k x y hk hx hy hy2 => by
  let E0 : List Vl := [.a a, .d (.int (k : Int)), .a p] ++ List.replicate 18 .un
  have ok0 : HdOk 0 [x, y, 0] := ⟨x, y, 0, rfl, hx, hy, hy2, by decide, by decide⟩
  obtain ⟨M, hd1, e1, rt, ok1⟩ := f_manner p ok0 (by decide)
  have n1 := rt.n1
  have n5 := rt.n5
  have s1 : bAsg 3 (mCall p 2 1 F_law_right_manner (xD (aCons (eD (.int 5)) aNil))) E0 [x, y, 0] = some (.nx (E0.set 3 (.d (encMan M))) hd1) := bAsg_ok (mCall_ok (vals := [.d (.int 5)]) rfl rfl ⟨rfl, rfl⟩ e1)
  have s2 : lft (sAsg 4 (eLst aNil)) (E0.set 3 (.d (encMan M))) hd1 = some (.nx ((E0.set 3 (.d (encMan M))).set 4 (.o [])) hd1) := lft_nx (sAsg_o rfl) rfl
  have J0 : Jb M a p 5 0 ((E0.set 3 (.d (encMan M))).set 4 (.o [])) hd1 := ⟨⟨[], rfl, fun i h => (by cases h), rfl⟩, rfl, rfl, rfl, rfl, rfl, ok1.mono (by decide)⟩
  obtain ⟨E3, hd3, f3, J⟩ := forB_inv (i := 5) (body := jobB p) (Jb M a p 5) M.n 0 _ hd1 J0 fun j env hd _ hj J => job_ok (by decide) (by omega) J
  rw [Nat.zero_add] at J
  have s3 : bFor 5 (xD (aCons (eIx (eVar 3) (eD (.int 1))) aNil)) (jobB p) ((E0.set 3 (.d (encMan M))).set 4 (.o [])) hd1 = some (.nx E3 hd3) :=
    bFor_ok (n := M.n) (by omega) (xD_ok (aCons_ok (man1 (k := M.k) (n := M.n) (i := 3) rfl) aNil_ok) rfl) f3
  obtain ⟨⟨its, il, hi, h4⟩, len, h0, h2, h3, nl, ok3⟩ := J
  let jobs : Nat → Items := fun i => its.getD i []
  have ej : D.tup (its.map encJob) = encJobs M.n jobs := jobs_enc il
  have hjm : ∀ i, i < M.n → jobs i ∈ its := fun i hi => by
    show its.getD i [] ∈ its
    rw [List.getD_eq_getElem?_getD, List.getElem?_eq_getElem (by omega)]
    exact List.getElem_mem _
  have s4 : lft (sAsg 4 (eB1 gTupL (aCons (eVar 4) aNil))) E3 hd3 = some (.nx (E3.set 4 (.d (encJobs M.n jobs))) hd3) := by
    rw [← ej]
    exact lft_nx (sAsg_d ((eB1_ok (h := gTupL) (eVar_o h4)).trans rfl)) (all_set nl rfl)
  obtain ⟨T, R, w, hd5, e5, run, hT, ok5⟩ := f_woven (p := p) (jobs := jobs) (B := 5 + 7 * (M.n : Int)) (by omega) rt (fun i hi2 => Nat.le_trans (hi _ (hjm i hi2)).1 (by decide)) ok3
  let E4 := E3.set 4 (.d (encJobs M.n jobs))
  have len4 : E4.length = 21 := by show (E3.set 4 _).length = 21; rw [List.length_set, len]
  have s5 : bUnp [7, 8] (mCall p 2 3 F_law_woven (xD (aCons (eVar 3) (aCons (eVar 4) (aCons (eD (.int 160)) aNil))))) E4 hd3 = some (.nx ((E4.set 7 (.d (.tup (weavD w T)))).set 8 (.d (encRoom M.k M.n (R T)))) hd5) := by
    have c : mCall p 2 3 F_law_woven (xD (aCons (eVar 3) (aCons (eVar 4) (aCons (eD (.int 160)) aNil)))) E4 hd3 = some (.tup [.tup (weavD w T), encRoom M.k M.n (R T)], hd5) :=
      mCall_ok (vals := [.d (encMan M), .d (encJobs M.n jobs), .d (.int 160)]) (set_off (by decide) h2) (xD_ok (aCons_ok (eVar_d (set_off (by decide) h3)) (aCons_ok (eVar_d (set_at (by rw [len]; decide))) (aCons_ok rfl aNil_ok))) rfl) ⟨rfl, rfl⟩ e5
    unfold bUnp
    rw [c] <;> rfl
  obtain ⟨E6, f6, z0, zl⟩ := f_tail (C := C) (a := a) (env := (E4.set 7 (.d (.tup (weavD w T)))).set 8 (.d (encRoom M.k M.n (R T)))) run rt (fun h hh i hm => (hi _ (hjm h hh)).2 i hm) (fun i hi2 => Nat.le_trans (hi _ (hjm i hi2)).1 (by decide)) hT
    (by rw [List.length_set, List.length_set, len4]) (set_off (by decide) (set_off (by decide) (set_off (by decide) h0))) (set_off (by decide) (set_off (by decide) (set_off (by decide) h3))) (set_off (by decide) (set_off (by decide) (set_at (by rw [len]; decide))))
    (set_off (by decide) (set_at (by rw [len4]; decide))) (set_at (by rw [List.length_set, len4]; decide))
  have s6 : lftT (b_law_tail C) ((E4.set 7 (.d (.tup (weavD w T)))).set 8 (.d (encRoom M.k M.n (R T)))) hd5 = some (.nx (E6.map dropL1) hd5) := by
    unfold lftT
    rw [f6] <;> rfl
  refine ⟨E6.map dropL1, hd5, bSeq_nx s1 (bSeq_nx s2 (bSeq_nx s3 (bSeq_nx s4 (bSeq_nx s5 s6)))), ?_, by rw [List.length_map]; exact zl⟩
  rw [List.getElem?_map, z0] <;> rfl
end K98

/-! ## End -/
/-! The end: the facts, the law. -/
namespace K98
open PySem PySem.Spec PyProof.Rows L2
theorem says_d {K : PySem.W.Frag} (c : SaysK K) : He.SaysD fa fn K := congrArg (fun z : He.AlD × Bool => z.1) c
theorem top_of {K : PySem.W.Frag} {h : Heap} {mg : PySem.Str → Option Value} (X : K.In h) (G : h.Ns mainGlobals mg) (c0 : SaysK K) : Top K mg := by
  have c := says_d c0
  have ct : He.tupB K "LOOK" [.str "look"] = true := congrArg (fun z : He.AlD × Bool => z.2) c0
  exact {
    hands_of := by obtain ⟨fd, F⟩ := c.def_ 3 (d := d_hands_of) rfl; exact ⟨_, fd, F, He.glo_ok X G (c.fact 0 (f := .glo "hands_of") rfl)⟩
    places_of := by obtain ⟨fd, F⟩ := c.def_ 4 (d := d_places_of) rfl; exact ⟨_, fd, F, He.glo_ok X G (c.fact 1 (f := .glo "places_of") rfl)⟩
    shakes_of := by obtain ⟨fd, F⟩ := c.def_ 5 (d := d_shakes_of) rfl; exact ⟨_, fd, F, He.glo_ok X G (c.fact 2 (f := .glo "shakes_of") rfl)⟩
    at_job := by obtain ⟨fd, F⟩ := c.def_ 6 (d := d_at_job) rfl; exact ⟨_, fd, F, He.glo_ok X G (c.fact 3 (f := .glo "at_job") rfl)⟩
    next_deed := by obtain ⟨fd, F⟩ := c.def_ 7 (d := d_next_deed) rfl; exact ⟨_, fd, F, He.glo_ok X G (c.fact 4 (f := .glo "next_deed") rfl)⟩
    answer_of := by obtain ⟨fd, F⟩ := c.def_ 8 (d := d_answer_of) rfl; exact ⟨_, fd, F, He.glo_ok X G (c.fact 5 (f := .glo "answer_of") rfl)⟩
    deeds_done := by obtain ⟨fd, F⟩ := c.def_ 9 (d := d_deeds_done) rfl; exact ⟨_, fd, F, He.glo_ok X G (c.fact 6 (f := .glo "deeds_done") rfl)⟩
    ahead_of := by obtain ⟨fd, F⟩ := c.def_ 10 (d := d_ahead_of) rfl; exact ⟨_, fd, F, He.glo_ok X G (c.fact 7 (f := .glo "ahead_of") rfl)⟩
    last_collects := by obtain ⟨fd, F⟩ := c.def_ 11 (d := d_last_collects) rfl; exact ⟨_, fd, F, He.glo_ok X G (c.fact 8 (f := .glo "last_collects") rfl)⟩
    changed_at := by obtain ⟨fd, F⟩ := c.def_ 12 (d := d_changed_at) rfl; exact ⟨_, fd, F, He.glo_ok X G (c.fact 9 (f := .glo "changed_at") rfl)⟩
    seen_often := by obtain ⟨fd, F⟩ := c.def_ 13 (d := d_seen_often) rfl; exact ⟨_, fd, F, He.glo_ok X G (c.fact 10 (f := .glo "seen_often") rfl)⟩
    others := by obtain ⟨fd, F⟩ := c.def_ 14 (d := d_others) rfl; exact ⟨_, fd, F, He.glo_ok X G (c.fact 11 (f := .glo "others") rfl)⟩
    number_behind := by obtain ⟨fd, F⟩ := c.def_ 15 (d := d_number_behind) rfl; exact ⟨_, fd, F, He.glo_ok X G (c.fact 12 (f := .glo "number_behind") rfl)⟩
    values_of := by obtain ⟨fd, F⟩ := c.def_ 16 (d := d_values_of) rfl; exact ⟨_, fd, F, He.glo_ok X G (c.fact 13 (f := .glo "values_of") rfl)⟩
    own_read := by obtain ⟨fd, F⟩ := c.def_ 17 (d := d_own_read) rfl; exact ⟨_, fd, F, He.glo_ok X G (c.fact 14 (f := .glo "own_read") rfl)⟩
    next_once := by obtain ⟨fd, F⟩ := c.def_ 18 (d := d_next_once) rfl; exact ⟨_, fd, F, He.glo_ok X G (c.fact 15 (f := .glo "next_once") rfl)⟩
    look_twice := by obtain ⟨fd, F⟩ := c.def_ 19 (d := d_look_twice) rfl; exact ⟨_, fd, F, He.glo_ok X G (c.fact 16 (f := .glo "look_twice") rfl)⟩
    next_twice := by obtain ⟨fd, F⟩ := c.def_ 20 (d := d_next_twice) rfl; exact ⟨_, fd, F, He.glo_ok X G (c.fact 17 (f := .glo "next_twice") rfl)⟩
    all_moved := by obtain ⟨fd, F⟩ := c.def_ 21 (d := d_all_moved) rfl; exact ⟨_, fd, F, He.glo_ok X G (c.fact 18 (f := .glo "all_moved") rfl)⟩
    look_handed := by obtain ⟨fd, F⟩ := c.def_ 22 (d := d_look_handed) rfl; exact ⟨_, fd, F, He.glo_ok X G (c.fact 19 (f := .glo "look_handed") rfl)⟩
    next_handed := by obtain ⟨fd, F⟩ := c.def_ 23 (d := d_next_handed) rfl; exact ⟨_, fd, F, He.glo_ok X G (c.fact 20 (f := .glo "next_handed") rfl)⟩
    round_length_signs := by obtain ⟨fd, F⟩ := c.def_ 24 (d := d_round_length_signs) rfl; exact ⟨_, fd, F, He.glo_ok X G (c.fact 21 (f := .glo "round_length_signs") rfl)⟩
    shake_step := by obtain ⟨fd, F⟩ := c.def_ 25 (d := d_shake_step) rfl; exact ⟨_, fd, F, He.glo_ok X G (c.fact 22 (f := .glo "shake_step") rfl)⟩
    moved_in_signs := by obtain ⟨fd, F⟩ := c.def_ 26 (d := d_moved_in_signs) rfl; exact ⟨_, fd, F, He.glo_ok X G (c.fact 23 (f := .glo "moved_in_signs") rfl)⟩
    look_signs := by obtain ⟨fd, F⟩ := c.def_ 27 (d := d_look_signs) rfl; exact ⟨_, fd, F, He.glo_ok X G (c.fact 24 (f := .glo "look_signs") rfl)⟩
    calls_of := by obtain ⟨fd, F⟩ := c.def_ 28 (d := d_calls_of) rfl; exact ⟨_, fd, F, He.glo_ok X G (c.fact 25 (f := .glo "calls_of") rfl)⟩
    next_signs := by obtain ⟨fd, F⟩ := c.def_ 29 (d := d_next_signs) rfl; exact ⟨_, fd, F, He.glo_ok X G (c.fact 26 (f := .glo "next_signs") rfl)⟩
    next_step := by obtain ⟨fd, F⟩ := c.def_ 30 (d := d_next_step) rfl; exact ⟨_, fd, F, He.glo_ok X G (c.fact 27 (f := .glo "next_step") rfl)⟩
    zeros := by obtain ⟨fd, F⟩ := c.def_ 31 (d := d_zeros) rfl; exact ⟨_, fd, F, He.glo_ok X G (c.fact 28 (f := .glo "zeros") rfl)⟩
    between := by obtain ⟨fd, F⟩ := c.def_ 32 (d := d_between) rfl; exact ⟨_, fd, F, He.glo_ok X G (c.fact 29 (f := .glo "between") rfl)⟩
    first_own := by obtain ⟨fd, F⟩ := c.def_ 33 (d := d_first_own) rfl; exact ⟨_, fd, F, He.glo_ok X G (c.fact 30 (f := .glo "first_own") rfl)⟩
    first_boxes := by obtain ⟨fd, F⟩ := c.def_ 34 (d := d_first_boxes) rfl; exact ⟨_, fd, F, He.glo_ok X G (c.fact 31 (f := .glo "first_boxes") rfl)⟩
    first_row := by obtain ⟨fd, F⟩ := c.def_ 35 (d := d_first_row) rfl; exact ⟨_, fd, F, He.glo_ok X G (c.fact 32 (f := .glo "first_row") rfl)⟩
    begun := by obtain ⟨fd, F⟩ := c.def_ 36 (d := d_begun) rfl; exact ⟨_, fd, F, He.glo_ok X G (c.fact 33 (f := .glo "begun") rfl)⟩
    state_of := by obtain ⟨fd, F⟩ := c.def_ 37 (d := d_state_of) rfl; exact ⟨_, fd, F, He.glo_ok X G (c.fact 34 (f := .glo "state_of") rfl)⟩
    deed_there := by obtain ⟨fd, F⟩ := c.def_ 38 (d := d_deed_there) rfl; exact ⟨_, fd, F, He.glo_ok X G (c.fact 35 (f := .glo "deed_there") rfl)⟩
    may_step := by obtain ⟨fd, F⟩ := c.def_ 39 (d := d_may_step) rfl; exact ⟨_, fd, F, He.glo_ok X G (c.fact 36 (f := .glo "may_step") rfl)⟩
    boxes_behind := by obtain ⟨fd, F⟩ := c.def_ 40 (d := d_boxes_behind) rfl; exact ⟨_, fd, F, He.glo_ok X G (c.fact 37 (f := .glo "boxes_behind") rfl)⟩
    reading := by obtain ⟨fd, F⟩ := c.def_ 41 (d := d_reading) rfl; exact ⟨_, fd, F, He.glo_ok X G (c.fact 38 (f := .glo "reading") rfl)⟩
    with_state := by obtain ⟨fd, F⟩ := c.def_ 42 (d := d_with_state) rfl; exact ⟨_, fd, F, He.glo_ok X G (c.fact 39 (f := .glo "with_state") rfl)⟩
    since_begin := by obtain ⟨fd, F⟩ := c.def_ 43 (d := d_since_begin) rfl; exact ⟨_, fd, F, He.glo_ok X G (c.fact 40 (f := .glo "since_begin") rfl)⟩
    own_row := by obtain ⟨fd, F⟩ := c.def_ 44 (d := d_own_row) rfl; exact ⟨_, fd, F, He.glo_ok X G (c.fact 41 (f := .glo "own_row") rfl)⟩
    stepped_end := by obtain ⟨fd, F⟩ := c.def_ 45 (d := d_stepped_end) rfl; exact ⟨_, fd, F, He.glo_ok X G (c.fact 42 (f := .glo "stepped_end") rfl)⟩
    stepped := by obtain ⟨fd, F⟩ := c.def_ 46 (d := d_stepped) rfl; exact ⟨_, fd, F, He.glo_ok X G (c.fact 43 (f := .glo "stepped") rfl)⟩
    followed := by obtain ⟨fd, F⟩ := c.def_ 47 (d := d_followed) rfl; exact ⟨_, fd, F, He.glo_ok X G (c.fact 44 (f := .glo "followed") rfl)⟩
    story := by obtain ⟨fd, F⟩ := c.def_ 48 (d := d_story) rfl; exact ⟨_, fd, F, He.glo_ok X G (c.fact 45 (f := .glo "story") rfl)⟩
    law_hand := by obtain ⟨fd, F⟩ := c.def_ 49 (d := d_law_hand) rfl; exact ⟨_, fd, F, He.glo_ok X G (c.fact 46 (f := .glo "_law_hand") rfl)⟩
    law_take := by obtain ⟨fd, F⟩ := c.def_ 50 (d := d_law_take) rfl; exact ⟨_, fd, F, He.glo_ok X G (c.fact 47 (f := .glo "_law_take") rfl)⟩
    law_pick := by obtain ⟨fd, F⟩ := c.def_ 51 (d := d_law_pick) rfl; exact ⟨_, fd, F, He.glo_ok X G (c.fact 48 (f := .glo "_law_pick") rfl)⟩
    law_right_manner := by obtain ⟨fd, F⟩ := c.def_ 52 (d := d_law_right_manner) rfl; exact ⟨_, fd, F, He.glo_ok X G (c.fact 49 (f := .glo "_law_right_manner") rfl)⟩
    law_woven := by obtain ⟨fd, F⟩ := c.def_ 53 (d := d_law_woven) rfl; exact ⟨_, fd, F, He.glo_ok X G (c.fact 50 (f := .glo "_law_woven") rfl)⟩
    law_total := by obtain ⟨fd, F⟩ := c.def_ 54 (d := d_law_total) rfl; exact ⟨_, fd, F, He.glo_ok X G (c.fact 51 (f := .glo "_law_total") rfl)⟩
    b_len := He.free_ok X G (c.fact 54 (f := .free "len") rfl)
    b_range := He.free_ok X G (c.fact 55 (f := .free "range") rfl)
    b_tuple := He.free_ok X G (c.fact 56 (f := .free "tuple") rfl)
    b_sum := He.free_ok X G (c.fact 57 (f := .free "sum") rfl)
    b_dict := He.free_ok X G (c.fact 58 (f := .free "dict") rfl)
    b_sorted := He.free_ok X G (c.fact 59 (f := .free "sorted") rfl)
    b_set := He.free_ok X G (c.fact 60 (f := .free "set") rfl)
    b_list := He.free_ok X G (c.fact 61 (f := .free "list") rfl)
    b_min := He.free_ok X G (c.fact 62 (f := .free "min") rfl)
    b_any := He.free_ok X G (c.fact 63 (f := .free "any") rfl)
    b_enumerate := He.free_ok X G (c.fact 64 (f := .free "enumerate") rfl)
    b_zip := He.free_ok X G (c.fact 65 (f := .free "zip") rfl)
    b_int := He.free_ok X G (c.fact 66 (f := .free "int") rfl)
    look := ⟨_, He.glo_ok X G (c.fact 53 (f := .glo "LOOK") rfl), fun H => Rep.tk (fun H2 => He.tupB_ok ct H2) (.cons (.str _) .nil)⟩
    sums := by
      obtain ⟨fd0, F0⟩ := c.def_ 0 (d := d_Sums_init) rfl
      obtain ⟨fd1, F1⟩ := c.def_ 1 (d := d_Sums_deed) rfl
      obtain ⟨fd2, F2⟩ := c.def_ 2 (d := d_Sums_answer) rfl
      exact ⟨He.ga K "Sums", {
        at_ := He.glo_ok X G (c.fact 67 (f := .glo "Sums") rfl)
        cls := He.cls_ok (c.fact 68 (f := .cls "Sums") rfl)
        n_own := He.noat_ok (c.fact 69 (f := .noat "Sums" "own") rfl)
        n_said := He.noat_ok (c.fact 70 (f := .noat "Sums" "said") rfl)
        n_told := He.noat_ok (c.fact 71 (f := .noat "Sums" "told") rfl)
        init := ⟨_, fd0, He.mkr_ok (c.fact 74 (f := .mkr "Sums") rfl), F0⟩
        deed := ⟨_, fd1, He.meth_ok (c.fact 72 (f := .meth "Sums" "deed") rfl), F1⟩
        answer := ⟨_, fd2, He.meth_ok (c.fact 73 (f := .meth "Sums" "answer") rfl), F2⟩ }⟩ }
theorem facts {P : Program} {w : World} {K : PySem.W.Frag} {h : Heap} {mg : PySem.Str → Option Value} {f : Addr} (X : K.In h) (G : h.Ns mainGlobals mg) (hfa : mg ("law" : PySem.Str) = some (.ref f)) (c : SaysK K) :
    ∃ fd : FuncData, (∀ (s : Shared) (v : Value), BindsTo s fd ⟨[v], []⟩ [("_law_script", v)]) ∧ ∀ base : Heap, K.In base → base.Ns mainGlobals mg → FnOk P w K mg base CX0 12 f fd ["_law_script"] (spLaw K) := by
  obtain ⟨fd, F⟩ := (says_d c).def_ 55 (d := d_law) rfl
  have e := hfa.symm.trans (He.glo_ok X G ((says_d c).fact 52 (f := .glo "law") rfl))
  cases e
  have b := FunD.bindsA (ps := ["_law_script"]) F fun _ _ _ _ _ _ us hl => match us, hl with | [_], _ => rfl
  refine ⟨fd, fun s v => b s [v] rfl, fun base _ Gb => ?_⟩
  have T := top_of X G c
  obtain ⟨C, S⟩ := T.sums
  exact law_body T (bun T S) (iter C) F
end K98
open PySem PySem.W PySem.Calls PyProof.Rows
theorem PySem.Challenge.cw_wholeglance_k98_whole_sums_holds : PySem.Challenge.rw_wholeglance_k98_whole_sums.Holds := by
  w_on; o_law
  refine HandSHeadRun.head_any (r := OpenLaw.row PySem.Challenge.rw_wholeglance_k98_whole_sums) (q := view (OpenLaw.row PySem.Challenge.rw_wholeglance_k98_whole_sums).prog [93]) (H := K98.hk) (ob := K98.ob) (M := 6000) (loose := K98.loose) (d := HandSHeadRun.topDef (OpenLaw.row PySem.Challenge.rw_wholeglance_k98_whole_sums).prog 93) (kwd := []) K98.ob_eq
    (by kernel_rfl) (fun s => by kernel_rfl) K98.run (by kernel_rfl) (by kernel_rfl) (by kernel_rfl) (by rfl) (by first | assumption | decide +kernel) (by decide +kernel) ⟨rfl, rfl, rfl, rfl, rfl, by decide +kernel⟩ ?hw ?hc
  case hw => w_witness2
  case hc =>
    refine L2.walk_ofE (l := PySem.Challenge.rw_wholeglance_k98_whole_sums) (n := 63) (k := 12) (x := "_law_script") (CX := L2.CX0) rfl (by decide) (by kernel_rfl) ⟨rfl, by decide, by decide⟩ ?F (fun _ _ _ _ z => z)
    intro w mg fa h Y G hmg0
    obtain ⟨K, KX, c⟩ := Y
    have hmg : mg ("law" : PySem.Str) = some (.ref fa) := by
      have e : (HandSHeadRun.topDef (OpenLaw.row PySem.Challenge.rw_wholeglance_k98_whole_sums).prog 93).name = ("law" : PySem.Str) := by kernel_rfl
      rw [← e]
      exact hmg0
    obtain ⟨fd, hb, hF⟩ := K98.facts (P := (PySem.Challenge.rw_wholeglance_k98_whole_sums).prog) (w := w) KX G hmg c
    exact ⟨K, fd, K98.spLaw K, KX, hb, fun H a ns hl _ hS => ⟨a, ns, rfl, hS, hl, fun _ => rfl⟩, hF⟩
