import PyProof.Rows.All
import PyProof.EvalArms
import PyProof.AutoIntG1
import PyProof.AutoListH
import PyProof.AutoRange
import PyProof.AutoSeq1
import PyProof.PureStr
import PyProof.SliceList
import PyProof.MeetsStr
import PyProof.MeetsStr2
import PyProof.CollectWalk
import PyProof.DictKinds
import PyProof.DictCalls
import PyProof.NeKinds
import PyProof.StrLawsIn
import PyProof.SliceMore
import KE.KEqDict
import Wide.FinOn
import OpenK.AllK
import Wide.All
import Lean
import PySem.Challenge.RW_pf0369_01
open PySem PySem.Spec PySem.Calls PySem.W PySem.W.X PyProof.Rows
set_option maxRecDepth 100000
set_option Elab.async false
set_option maxHeartbeats 0
set_option linter.unusedVariables false
section
namespace Mine

/-! ## the ledger: address and object by number -/
inductive LT where
  | nil
  | node (a : Nat) (o : Obj) (l r : LT)
namespace LT
noncomputable def get : LT → Nat → Option (Nat × Obj)
  | .nil, _ => none
  | .node a o l r, i => match Nat.beq i 0 with
    | true => some (a, o)
    | false => match Nat.beq (i % 2) 1 with
      | true => l.get (i / 2)
      | false => r.get (i / 2 - 1)
noncomputable def put : LT → Nat → Nat → Obj → LT
  | .nil, i, a, o => match Nat.beq i 0 with
    | true => .node a o .nil .nil
    | false => .nil
  | .node b x l r, i, a, o => match Nat.beq i 0 with
    | true => .node a o l r
    | false => match Nat.beq (i % 2) 1 with
      | true => .node b x (l.put (i / 2) a o) r
      | false => .node b x l (r.put (i / 2 - 1) a o)
/-- the same, handed on once it is laid out -/
noncomputable def putK {R : Type} : LT → Nat → Nat → Obj → (LT → R) → R
  | .nil, i, a, o, k => match Nat.beq i 0 with
    | true => k (.node a o .nil .nil)
    | false => k .nil
  | .node b x l r, i, a, o, k => match Nat.beq i 0 with
    | true => k (.node a o l r)
    | false => match Nat.beq (i % 2) 1 with
      | true => l.putK (i / 2) a o fun l' => k (.node b x l' r)
      | false => r.putK (i / 2 - 1) a o fun r' => k (.node b x l r')
theorem putK_eq {R : Type} : ∀ (t : LT) (i a : Nat) (o : Obj) (k : LT → R), t.putK i a o k = k (t.put i a o)
  | .nil, i, a, o, k => by unfold putK put; cases Nat.beq i 0 <;> rfl
  | .node b x l r, i, a, o, k => by
    unfold putK put
    cases Nat.beq i 0
    · cases Nat.beq (i % 2) 1
      · exact putK_eq r _ _ _ _
      · exact putK_eq l _ _ _ _
    · rfl
theorem get_node (a : Nat) (o : Obj) (l r : LT) (i : Nat) : (node a o l r).get i = if i = 0 then some (a, o) else if i % 2 = 1 then l.get (i / 2) else r.get (i / 2 - 1) := by
  show (match Nat.beq i 0 with | true => some (a, o) | false => match Nat.beq (i % 2) 1 with | true => l.get (i / 2) | false => r.get (i / 2 - 1)) = _
  rw [BT.beq_eq, BT.beq_eq]
  by_cases h : i = 0
  · simp [h]
  · by_cases q : i % 2 = 1 <;> simp [h, q]
theorem put_node (b : Nat) (x : Obj) (l r : LT) (i a : Nat) (o : Obj) : (node b x l r).put i a o = if i = 0 then node a o l r else if i % 2 = 1 then node b x (l.put (i / 2) a o) r else node b x l (r.put (i / 2 - 1) a o) := by
  show (match Nat.beq i 0 with | true => node a o l r | false => match Nat.beq (i % 2) 1 with | true => node b x (l.put (i / 2) a o) r | false => node b x l (r.put (i / 2 - 1) a o)) = _
  rw [BT.beq_eq, BT.beq_eq]
  by_cases h : i = 0
  · simp [h]
  · by_cases q : i % 2 = 1 <;> simp [h, q]
theorem put_nil (i a : Nat) (o : Obj) : nil.put i a o = if i = 0 then node a o nil nil else nil := by
  show (match Nat.beq i 0 with | true => node a o nil nil | false => nil) = _
  rw [BT.beq_eq]
  by_cases h : i = 0 <;> simp [h]
theorem get_nil (i : Nat) : nil.get i = none := rfl
theorem get_put (a : Nat) (o : Obj) : ∀ (t : LT) (i : Nat), ((t.put i a o).get i).isSome = true → ∀ j, (t.put i a o).get j = if j = i then some (a, o) else t.get j
  | .nil, i, h, j => by
    rw [put_nil] at h ⊢
    by_cases hi : i = 0
    · subst hi
      rw [if_pos rfl, get_node]
      by_cases hj : j = 0
      · simp [hj]
      · by_cases p : j % 2 = 1 <;> simp [hj, p, get_nil]
    · rw [if_neg hi, get_nil] at h; cases h
  | .node b x l r, i, h, j => by
    rw [put_node] at h ⊢
    rw [get_node b x l r j]
    by_cases hi : i = 0
    · subst hi
      rw [if_pos rfl, get_node]
      by_cases hj : j = 0 <;> simp [hj]
    · rw [if_neg hi] at h ⊢
      by_cases pa : i % 2 = 1
      · rw [if_pos pa] at h ⊢
        rw [get_node, if_neg hi, if_pos pa] at h
        rw [get_node]
        by_cases hj : j = 0
        · simp [hj, Ne.symm hi]
        · by_cases pj : j % 2 = 1
          · simp only [hj, pj, if_true, if_false, get_put a o l _ h]
            by_cases e : j = i
            · simp [e]
            · have : j / 2 ≠ i / 2 := by omega
              simp [e, this]
          · have : j ≠ i := fun q => pj (q ▸ pa)
            simp [hj, pj, this]
      · rw [if_neg pa] at h ⊢
        rw [get_node, if_neg hi, if_neg pa] at h
        rw [get_node]
        by_cases hj : j = 0
        · simp [hj, Ne.symm hi]
        · by_cases pj : j % 2 = 1
          · have : j ≠ i := fun q => pa (q ▸ pj)
            simp [hj, pj, this]
          · simp only [hj, pj, if_false, get_put a o r _ h]
            by_cases e : j = i
            · simp [e]
            · have : j / 2 - 1 ≠ i / 2 - 1 := by omega
              simp [e, this]
end LT

/-! ## laying out -/
noncomputable def listK {α R : Type} : List α → (List α → R) → R
  | [], k => k []
  | x :: l, k => listK l fun l' => k (x :: l')
theorem listK_eq {α R : Type} : ∀ (l : List α) (k : List α → R), listK l k = k l
  | [], _ => rfl
  | _ :: l, _ => listK_eq l _
noncomputable def arrK {α R : Type} (a : Array α) (k : Array α → R) : R := match a with
  | ⟨l⟩ => listK l fun l' => k ⟨l'⟩
theorem arrK_eq {α R : Type} (a : Array α) (k : Array α → R) : arrK a k = k a := by cases a; exact listK_eq _ _
noncomputable def dataK {R : Type} (d : Data) (k : Data → R) : R := match d with
  | .seq xs n => arrK xs fun xs' => k (.seq xs' n)
  | .dict es n => arrK es fun es' => k (.dict es' n)
  | .fields vs => arrK vs fun vs' => k (.fields vs')
  | .cell v => k (.cell v)
  | .prim v => k (.prim v)
  | d => k d
theorem dataK_eq {R : Type} (d : Data) (k : Data → R) : dataK d k = k d := by
  unfold dataK; split <;> first | rfl | rw [arrK_eq]
noncomputable def objK {R : Type} (o : Obj) (k : Obj → R) : R := match o with
  | ⟨cls, dict, data, slots⟩ => dataK data fun d => k ⟨cls, dict, d, slots⟩
theorem objK_eq {R : Type} (o : Obj) (k : Obj → R) : objK o k = k o := by
  obtain ⟨a, b, c, d⟩ := o
  show dataK c (fun d' => k ⟨a, b, d', d⟩) = _
  rw [dataK_eq]

/-! ## the run -/
abbrev Ko := List (Code × Option Value × (Result → Sem Fin))
structure St where
  c : Code
  κ : Ko
  t : Sem Fin
  T : LT
  m : Nat
  /-- the heap's size, the count of tokens -/
  nx : Nat
  tk : Nat
structure Out where
  ok : Bool
  eqs : List (Nat × Nat)
  st : St
structure Ws where
  prog : Program
  w : World
  A₀ : Around
  /-- a bound of the depth around -/
  dm : Nat
  /-- the ledger's first g1 may be changed, those from g1 to g2 may not, those from g2 on are new -/
  g1 : Nat
  g2 : Nat
  kt : KT
  /-- further objects that stand -/
  ex : List (Nat × Obj)

noncomputable def Ko.dep (dm : Nat) : Ko → Nat
  | [] => dm
  | (c, _, _) :: κ => Ko.dep dm κ + c.weight
noncomputable def Ko.room (dm : Nat) (κ : Ko) : Bool := Nat.blt (Ko.dep dm κ) 1000

noncomputable def arOf (A₀ : Around) : Ko → Around
  | [] => A₀
  | (c, hd, _) :: κ => ((arOf A₀ κ).under c).mark hd
/-- what a load reads: by 0 a known object, by i + 1 the ledger's i (and its address, to be held against the asked one) -/
noncomputable def lookZ (kt : KT) (T : LT) (i a : Nat) : Option (Option Nat × Obj) := match i with
  | 0 => match kt.get a with
    | some o => some (none, o)
    | none => none
  | i + 1 => match T.get i with
    | some x => some (some x.1, x.2)
    | none => none
noncomputable def pushE (a : Nat) (b : Option Nat) (l : List (Nat × Nat)) : List (Nat × Nat) := match b with
  | some b => (a, b) :: l
  | none => l
noncomputable def allocZ (g2 m : Nat) (T : LT) (o : Obj) : Bool := match o.isFreed, Nat.ble g2 m, T.get m with
  | false, true, none => true
  | _, _, _ => false
noncomputable def updZ (g1 g2 i : Nat) (T : LT) (f : Obj → Obj) : Option (Nat × Nat × Obj) := match i with
  | 0 => none
  | i + 1 => match T.get i with
    | some x => match (f x.2).isFreed, Nat.blt i g1 || Nat.ble g2 i with
      | false, true => some (i, x)
      | _, _ => none
    | none => none
noncomputable def actZ (den : Code → Sem Fin) (V : Ws) (go : Nat → List (Nat × Nat) → St → Out) (cs : Nat) (eqs : List (Nat × Nat)) : St → Out
  | ⟨c, κ, t, T, m, nx, tk⟩ => match t with
    | .pure fin => match fin with
      | .done f => match κ with
        | [] => ⟨false, eqs, ⟨c, κ, t, T, m, nx, tk⟩⟩
        | x :: κ' => go cs eqs ⟨x.1, κ', x.2.2 (.ok f), T, m, nx, tk⟩
      | .again c' => match c'.quiet && Ko.room V.dm κ with
        | true => go cs eqs ⟨c', κ, den c', T, m, nx, tk⟩
        | false => ⟨false, eqs, ⟨c, κ, t, T, m, nx, tk⟩⟩
    | .raise e => match κ with
      | [] => ⟨false, eqs, ⟨c, κ, t, T, m, nx, tk⟩⟩
      | x :: κ' => go cs eqs ⟨x.1, κ', x.2.2 (.error e), T, m, nx, tk⟩
    | .rule _ k => go cs eqs ⟨c, κ, k (), T, m, nx, tk⟩
    | .at _ k => go cs eqs ⟨c, κ, k (), T, m, nx, tk⟩
    | .point _ k => go cs eqs ⟨c, κ, k (), T, m, nx, tk⟩
    | .ask k => go cs eqs ⟨c, κ, k ⟨V.prog, V.w.params⟩, T, m, nx, tk⟩
    | .fresh k => go cs eqs ⟨c, κ, k tk, T, m, nx, tk + 1⟩
    | .handled own k => match own with
      | true => ⟨false, eqs, ⟨c, κ, t, T, m, nx, tk⟩⟩
      | false => go cs eqs ⟨c, κ, k (arOf V.A₀ κ).handled, T, m, nx, tk⟩
    | .load a _ k => match lookZ V.kt T (cs % 512) a with
      | some x => go (cs / 512) (pushE a x.1 eqs) ⟨c, κ, k x.2, T, m, nx, tk⟩
      | none => ⟨false, eqs, ⟨c, κ, t, T, m, nx, tk⟩⟩
    | .loadIfAlive a k => match lookZ V.kt T (cs % 512) a with
      | some x => go (cs / 512) (pushE a x.1 eqs) ⟨c, κ, k (some x.2), T, m, nx, tk⟩
      | none => ⟨false, eqs, ⟨c, κ, t, T, m, nx, tk⟩⟩
    | .alloc o k => match allocZ V.g2 m T o with
      | false => ⟨false, eqs, ⟨c, κ, t, T, m, nx, tk⟩⟩
      | true => objK o fun o => T.putK m nx o fun T' => match T'.get m with
          | some _ => go cs eqs ⟨c, κ, k nx, T', m + 1, nx + 1, tk⟩
          | none => ⟨false, eqs, ⟨c, κ, t, T, m, nx, tk⟩⟩
    | .update a _ f k => match updZ V.g1 V.g2 (cs % 512) T f with
      | some x => objK (f x.2.2) fun o => T.putK x.1 x.2.1 o fun T' => go (cs / 512) ((a, x.2.1) :: eqs) ⟨c, κ, k (), T', m, nx, tk⟩
      | none => ⟨false, eqs, ⟨c, κ, t, T, m, nx, tk⟩⟩
    | .call c' hd _ _ k => match okMark hd && Ko.room V.dm ((c, hd, k) :: κ) with
      | true => go cs eqs ⟨c', (c, hd, k) :: κ, den c', T, m, nx, tk⟩
      | false => ⟨false, eqs, ⟨c, κ, t, T, m, nx, tk⟩⟩
    | _ => ⟨false, eqs, ⟨c, κ, t, T, m, nx, tk⟩⟩
noncomputable def run (den : Code → Sem Fin) (V : Ws) : Nat → Nat → List (Nat × Nat) → St → Out
  | 0, _, eqs, S => ⟨true, eqs, S⟩
  | n + 1, cs, eqs, S => actZ den V (run den V n) cs eqs S

/-! ## a def's call without the question of the stack's depth -/
noncomputable def noLimitB (o : Obj) : Bool := match o.data with
  | .dict es _ => (es.all fun e => match e.key with | .str .. => true | _ => false) && (nsFind es "sys.recursionlimit").isNone
  | _ => false
noncomputable def qualB (oc : Obj) (q : Str) : Bool := match oc.data with
  | .fields vs => (match vs[1]? with | some v => (match v with | Value.str x _ => x == q | _ => false) | none => false)
  | _ => false
noncomputable def callZ (a : Addr) (args : Args) : Sem PySem.Fin := do
  let o ← load a
  match o.data with
  | .func fd => match fd.scope.isCoroutine || fd.scope.isGenerator, fd.code with
    | false, .ref cd => do
      let oc ← load cd
      match qualB oc fd.qualname with
      | true => do
        let binds ← bindArgs fd args
        let env ← newFunctionEnv fd.scope fd.globals fd.closure binds (fd.qualname ++ ".<locals>.") (some a) fd.code none fd.builtins
        let oz ← load cStatics
        match noLimitB oz with
        | true => match fd.body with
          | .stmts b => again (.func b env)
          | .expr e => again (.expr e env)
        | false => unsupported "z"
      | false => unsupported "z"
    | _, _ => unsupported "z"
  | _ => denote treeTable (.call (.ref a) args)
noncomputable def denZ : Code → Sem PySem.Fin
  | .call (.ref a) args => callZ a args
  | c => denote treeTable c
theorem noLimit_of {h : Heap} {o : Obj} (e : h.get? cStatics = some o) (x : noLimitB o = true) : h.NoLimit := by
  unfold noLimitB at x
  split at x
  · rename_i es n hd
    obtain ⟨x1, x2⟩ := Bool.and_eq_true_iff.mp x
    refine ⟨nsFind es, ⟨o, es, n, e, hd, fun d hd' => ?_, fun _ => rfl⟩, by simpa using x2⟩
    have q := Array.all_eq_true'.mp x1 d hd'
    split at q
    · rename_i k t hk; exact ⟨k, t, hk⟩
    · cases q
  · cases x
theorem callZ_ok {prog : Program} {w : World} {A : Around} {a : Addr} {args : Args} {Q : PySem.Fin → Shared → Prop} {E : Value → Shared → Prop} {s : Shared} (hroom : A.depth < recursionLimit)
    (h : wpOwn (model prog w) A (.call (.ref a) args) (callZ a args) Q E s) : wpOwn (model prog w) A (.call (.ref a) args) (denote table (.call (.ref a) args)) Q E s := by
  intro Γ p hc hΓ
  have H := h Γ p hc hΓ
  unfold callZ at H
  simp only [Sem.wp_bind', Sem.wp_cmd_load] at H
  obtain ⟨o, ho, H⟩ := H
  cases hd : o.data with
  | func fd =>
    rw [hd] at H
    dsimp only at H
    split at H
    · rename_i cd hco hcode
      obtain ⟨h1, h2⟩ := Bool.or_eq_false_iff.mp hco
      simp only [Sem.wp_bind', Sem.wp_cmd_load] at H
      obtain ⟨oc, hoc, H⟩ := H
      split at H
      · rename_i hq
        unfold qualB at hq
        split at hq
        · rename_i vs hvs
          split at hq
          · rename_i v hv
            split at hq
            · rename_i x t
              have hx : x = fd.qualname := by simpa using hq
              subst hx
              have hf : ∀ K : Value → Sem PySem.Fin, Sem.wp (model prog w) Γ (field (.ref cd) 1 >>= K) (fun a _ s' => Q a s') (fun e _ s' => E e s') p s = Sem.wp (model prog w) Γ (K (.str fd.qualname t)) (fun a _ s' => Q a s') (fun e _ s' => E e s') p s := by
                intro K
                rw [Sem.wp_bind']
                simp only [field, fieldsOf, Sem.wp_bind', Sem.wp_load_of (h := hoc), hvs, hv, Sem.wp_pure']
              show Sem.wp (model prog w) Γ (callAny (.ref a) args) _ _ p s
              simp only [callAny]
              rw [Sem.wp_bind', Sem.wp_load_of (h := ho)]
              simp only [hd, callFunction, hcode, h1, h2]
              refine (hf _).mpr ?_
              dsimp only [pure_bind]
              rw [Sem.wp_bind', Sem.wp_pure']
              rw [Sem.wp_bind'] at H ⊢
              refine Sem.wp_mono _ _ _ (fun binds p1 s1 H1 => ?_) (fun _ _ _ x => x) p s H
              rw [Sem.wp_bind'] at H1 ⊢
              rw [hcode] at H1
              refine Sem.wp_mono _ _ _ (fun env p2 s2 H2 => ?_) (fun _ _ _ x => x) p1 s1 H1
              rw [Sem.wp_bind', Sem.wp_cmd_load] at H2
              obtain ⟨oz, hoz, H3⟩ := H2
              cases hz : noLimitB oz with
              | false => rw [hz] at H3; exact H3.elim
              | true =>
                rw [hz] at H3
                rw [Sem.wp_bind']
                have hin := hΓ.in
                rw [hc] at hin
                refine Sem.wp_mono _ _ _ (fun _ p3 s3 (H4 : s3 = s2) => ?_) (fun _ _ _ x => x.elim) p2 s2 (wpAny_enterFrame (M := model prog w) (Q := fun _ s' => s' = s2) (E := fun _ _ => False) (noLimit_of hoz hz) (A := A.under (.call (.ref a) args)) (by show A.depth + _ < _; exact hroom) rfl Γ p2 hin)
                subst H4
                cases hb : fd.body with
                | stmts b => rw [hb] at H3; exact H3
                | expr b => rw [hb] at H3; exact H3
            · cases hq
          · cases hq
        · cases hq
      · exact H.elim
    · exact H.elim
  | _ => rw [hd, ← table_eq_tree] at H; exact H
theorem denZ_ok {prog : Program} {w : World} {A : Around} {c : Code} {Q : PySem.Fin → Shared → Prop} {E : Value → Shared → Prop} {s : Shared} (hroom : A.depth < recursionLimit)
    (h : wpOwn (model prog w) A c (denZ c) Q E s) : wpOwn (model prog w) A c (denote table c) Q E s := by
  unfold denZ at h
  split at h
  · exact callZ_ok hroom h
  · rw [← table_eq_tree] at h; exact h

/-! ## what a state means -/
namespace LT
theorem get_put_some (a : Nat) (o : Obj) : ∀ (t : LT) (i : Nat), (t.get i).isSome = true → ((t.put i a o).get i).isSome = true
  | .nil, i, h => by cases h
  | .node b x l r, i, h => by
    rw [put_node]
    rw [get_node] at h
    by_cases hi : i = 0
    · subst hi; rw [if_pos rfl, get_node]; rfl
    · rw [if_neg hi] at h ⊢
      by_cases p : i % 2 = 1
      · rw [if_pos p] at h ⊢
        rw [get_node, if_neg hi, if_pos p]
        exact get_put_some a o l _ h
      · rw [if_neg p] at h ⊢
        rw [get_node, if_neg hi, if_neg p]
        exact get_put_some a o r _ h
end LT
structure Rep (V : Ws) (h₀ : Heap) (M : List Nat) (T : LT) (nx : Nat) (h : Heap) : Prop where
  size : h.objs.size = nx
  own : ∀ i a o, T.get i = some (a, o) → h.get? a = some o
  one : ∀ i j a o o', T.get i = some (a, o) → T.get j = some (a, o') → i = j
  off : ∀ i a o, T.get i = some (a, o) → V.kt.get a = none
  known : ∀ a o, V.kt.get a = some o → h.get? a = some o
  may : ∀ i a o, T.get i = some (a, o) → i < V.g1 → a ∈ M
  new : ∀ i a o, T.get i = some (a, o) → V.g2 ≤ i → h₀.get? a = none
  keep : ∀ b o, h₀.get? b = some o → b ∉ M → h.get? b = some o
  more : h₀.objs.size ≤ h.objs.size
  xs : ∀ p ∈ V.ex, h.get? p.1 = some p.2 ∧ ∀ i a o, T.get i = some (a, o) → p.1 ≠ a
section
variable {V : Ws} {h₀ h : Heap} {M : List Nat} {T : LT} {nx m i b : Nat}
theorem Rep.lt (D : Rep V h₀ M T nx h) {i a : Nat} {o : Obj} (e : T.get i = some (a, o)) : a < nx := D.size ▸ Heap.lt_size (D.own i a o e)
theorem Rep.kfree (D : Rep V h₀ M T nx h) {a : Nat} (ha : nx ≤ a) : V.kt.get a = none := by
  cases q : V.kt.get a with
  | none => rfl
  | some x => exact absurd (Nat.lt_of_lt_of_le (D.size ▸ Heap.lt_size (D.known _ _ q)) ha) (Nat.lt_irrefl _)
theorem Rep.fresh0 (D : Rep V h₀ M T nx h) {a : Nat} (ha : nx ≤ a) : h₀.get? a = none := by
  cases q : h₀.get? a with
  | none => rfl
  | some x => exact absurd (Nat.lt_of_lt_of_le (Heap.lt_size q) (Nat.le_trans D.more (D.size ▸ ha))) (Nat.lt_irrefl _)
theorem Rep.alloc (D : Rep V h₀ M T nx h) {o : Obj} (hf : o.isFreed = false) (hm2 : V.g2 ≤ m) (hm1 : ¬ m < V.g1) (hg : ((T.put m nx o).get m).isSome = true) (hm : T.get m = none) : Rep V h₀ M (T.put m nx o) (nx + 1) (h.push o) := by
  have G := LT.get_put nx o T m hg
  refine ⟨by rw [Heap.size_push, D.size], fun i a o' e => ?_, fun i j a o1 o2 e1 e2 => ?_, fun i a o' e => ?_, fun a o' e => Heap.get?_push_of_some _ (D.known a o' e), fun i a o' e hi => ?_, fun i a o' e hi => ?_, fun b o' e q => Heap.get?_push_of_some _ (D.keep b o' e q), Nat.le_trans D.more (by rw [Heap.size_push]; exact Nat.le_succ _), fun p hp => ⟨Heap.get?_push_of_some _ (D.xs p hp).1, fun i a o' e => ?_⟩⟩
  · rw [G] at e
    by_cases hi : i = m
    · rw [if_pos hi] at e; cases e; rw [← D.size]; exact Heap.get?_push_size _ hf
    · rw [if_neg hi] at e; exact Heap.get?_push_of_some _ (D.own i a o' e)
  · rw [G] at e1 e2
    by_cases hi : i = m
    · by_cases hj : j = m
      · rw [hi, hj]
      · rw [if_pos hi] at e1; rw [if_neg hj] at e2; cases e1; exact absurd (D.lt e2) (Nat.lt_irrefl _)
    · by_cases hj : j = m
      · rw [if_neg hi] at e1; rw [if_pos hj] at e2; cases e2; exact absurd (D.lt e1) (Nat.lt_irrefl _)
      · rw [if_neg hi] at e1; rw [if_neg hj] at e2; exact D.one _ _ _ _ _ e1 e2
  · rw [G] at e
    by_cases hi : i = m
    · rw [if_pos hi] at e; cases e; exact D.kfree (Nat.le_refl _)
    · rw [if_neg hi] at e; exact D.off i a o' e
  · rw [G] at e
    by_cases hi' : i = m
    · exact absurd (hi' ▸ hi) hm1
    · rw [if_neg hi'] at e; exact D.may i a o' e hi
  · rw [G] at e
    by_cases hi' : i = m
    · rw [if_pos hi'] at e; cases e; exact D.fresh0 (Nat.le_refl _)
    · rw [if_neg hi'] at e; exact D.new i a o' e hi
  · rw [G] at e
    by_cases hi' : i = m
    · rw [if_pos hi'] at e; cases e
      exact fun z => absurd (D.size ▸ Heap.lt_size (D.xs p hp).1) (by rw [z]; exact Nat.lt_irrefl _)
    · rw [if_neg hi'] at e; exact (D.xs p hp).2 i a o' e
theorem Rep.update (D : Rep V h₀ M T nx h) {o : Obj} {f : Obj → Obj} (e : T.get i = some (b, o)) (hf : (f o).isFreed = false) (hi : i < V.g1 ∨ V.g2 ≤ i) : Rep V h₀ M (T.put i b (f o)) nx (h.update b f) := by
  have G := LT.get_put b (f o) T i (LT.get_put_some b (f o) T i (by rw [e]; rfl))
  have hs : Heap.SameBut b h (h.update b f) := Heap.SameBut.update ..
  have ho := D.own i b o e
  have ge : (h.update b f).get? b = some (f o) := by first | exact Heap.get?_update_self f ho hf | exact Heap.get?_update_self _ ho hf
  have ne : ∀ j a o', j ≠ i → T.get j = some (a, o') → a ≠ b := fun j a o' hj e' z => hj (D.one j i a o' o e' (z ▸ e))
  have back : ∀ j a o', (T.put i b (f o)).get j = some (a, o') → ∃ o2, T.get j = some (a, o2) := fun j a o' e' => by
    rw [G] at e'
    by_cases hj : j = i
    · rw [if_pos hj] at e'; cases e'; exact ⟨o, hj ▸ e⟩
    · rw [if_neg hj] at e'; exact ⟨o', e'⟩
  refine ⟨by rw [hs.1, D.size], fun j a o' e' => ?_, fun j k a o1 o2 e1 e2 => ?_, fun j a o' e' => ?_, fun a o' e' => ?_, fun j a o' e' hj => ?_, fun j a o' e' hj => ?_, fun c o' e' q => ?_, by rw [hs.1]; exact D.more, fun p hp => ⟨(hs.2 _ ((D.xs p hp).2 i b o e)).trans (D.xs p hp).1, fun j a o' e' => ?_⟩⟩
  · rw [G] at e'
    by_cases hj : j = i
    · rw [if_pos hj] at e'; cases e'; exact ge
    · rw [if_neg hj] at e'; exact (hs.2 _ (ne j a o' hj e')).trans (D.own j a o' e')
  · obtain ⟨_, e1⟩ := back _ _ _ e1
    obtain ⟨_, e2⟩ := back _ _ _ e2
    exact D.one _ _ _ _ _ e1 e2
  · obtain ⟨_, e'⟩ := back _ _ _ e'; exact D.off _ _ _ e'
  · have : a ≠ b := fun z => by have y := D.off i b o e; rw [← z, e'] at y; cases y
    exact (hs.2 _ this).trans (D.known a o' e')
  · obtain ⟨_, e'⟩ := back _ _ _ e'; exact D.may _ _ _ e' hj
  · obtain ⟨_, e'⟩ := back _ _ _ e'; exact D.new _ _ _ e' hj
  · have hc : c ≠ b := by
      rintro rfl
      rcases hi with hi | hi
      · exact q (D.may i c o e hi)
      · have y := D.new i c o e hi
        rw [e'] at y; cases y
    exact (hs.2 _ hc).trans (D.keep c o' e' q)
  · obtain ⟨o2, e'⟩ := back _ _ _ e'; exact (D.xs p hp).2 j a o2 e'
end

noncomputable def endOf (prog : Program) (w : World) (A₀ : Around) (R₀ : Result → Shared → Prop) : Ko → Result → Shared → Prop
  | [] => R₀
  | (c, _, k) :: κ => postR prog w (arOf A₀ κ) c (postC prog w (arOf A₀ κ) (endOf prog w A₀ R₀ κ)) (postE (endOf prog w A₀ R₀ κ)) k
theorem dep_ok {A₀ : Around} {dm : Nat} (h : A₀.depth ≤ dm) : ∀ κ : Ko, (arOf A₀ κ).depth ≤ Ko.dep dm κ
  | [] => h
  | (c, hd, k) :: κ => by
    show (arOf A₀ κ).depth + c.weight ≤ Ko.dep dm κ + c.weight
    exact Nat.add_le_add_right (dep_ok h κ) _
theorem room_ok {A₀ : Around} {dm : Nat} (h : A₀.depth ≤ dm) {κ : Ko} (q : Ko.room dm κ = true) : (arOf A₀ κ).depth < recursionLimit :=
  Nat.lt_of_le_of_lt (dep_ok h κ) (Nat.le_of_ble_eq_true q)

noncomputable def eqsOk : List (Nat × Nat) → Prop
  | [] => True
  | p :: l => p.1 = p.2 ∧ eqsOk l
structure Wb extends Ws where
  h₀ : Heap
  M : List Nat
  R₀ : Result → Shared → Prop
  d : Drawn
  os : OsState
noncomputable def Means (V : Wb) (c : Code) (κ : Ko) (t : Sem PySem.Fin) (s : Shared) : Prop :=
  wpOwn (model V.prog V.w) (arOf V.A₀ κ) c t (postC V.prog V.w (arOf V.A₀ κ) (endOf V.prog V.w V.A₀ V.R₀ κ)) (postE (endOf V.prog V.w V.A₀ V.R₀ κ)) s
noncomputable def Go (V : Wb) (S : St) : Prop := ∀ h, Rep V.toWs V.h₀ V.M S.T S.nx h → Means V S.c S.κ S.t ⟨h, #[], V.d, S.tk, V.os⟩

theorem push_ok {a : Nat} : ∀ {b : Option Nat} {l : List (Nat × Nat)}, eqsOk (pushE a b l) → eqsOk l
  | none, _, h => h
  | some _, _, h => h.2
theorem look_ok {V : Ws} {h₀ h : Heap} {M : List Nat} {T : LT} {nx i a : Nat} {x : Option Nat × Obj} {l : List (Nat × Nat)} (D : Rep V h₀ M T nx h) (e : lookZ V.kt T i a = some x) (he : eqsOk (pushE a x.1 l)) : h.get? a = some x.2 := by
  cases i with
  | zero =>
    have e : (match V.kt.get a with | some o => some (none, o) | none => none) = some x := e
    cases g : V.kt.get a with
    | none => rw [g] at e; cases e
    | some o => rw [g] at e; cases e; exact D.known a o g
  | succ i =>
    have e : (match T.get i with | some x => some (some x.1, x.2) | none => none) = some x := e
    cases g : T.get i with
    | none => rw [g] at e; cases e
    | some y =>
      rw [g] at e
      cases e
      have q : a = y.1 := he.1
      rw [q]
      exact D.own i y.1 y.2 g
theorem alloc_ok {g2 m : Nat} {T : LT} {o : Obj} (e : allocZ g2 m T o = true) : o.isFreed = false ∧ g2 ≤ m ∧ T.get m = none := by
  unfold allocZ at e
  cases h1 : o.isFreed <;> cases h2 : Nat.ble g2 m <;> cases h3 : T.get m <;> rw [h1, h2, h3] at e <;> first | exact ⟨rfl, Nat.le_of_ble_eq_true h2, rfl⟩ | cases e
theorem upd_ok {g1 g2 i : Nat} {T : LT} {f : Obj → Obj} {x : Nat × Nat × Obj} (e : updZ g1 g2 i T f = some x) : T.get x.1 = some x.2 ∧ (f x.2.2).isFreed = false ∧ (x.1 < g1 ∨ g2 ≤ x.1) := by
  cases i with
  | zero => cases e
  | succ i =>
    have e : (match T.get i with | some x => (match (f x.2).isFreed, Nat.blt i g1 || Nat.ble g2 i with | false, true => some (i, x) | _, _ => none) | none => none) = some x := e
    cases g : T.get i with
    | none => rw [g] at e; cases e
    | some y =>
      rw [g] at e
      have e : (match (f y.2).isFreed, Nat.blt i g1 || Nat.ble g2 i with | false, true => some (i, y) | _, _ => none) = some x := e
      cases h1 : (f y.2).isFreed <;> cases h2 : (Nat.blt i g1 || Nat.ble g2 i) <;> rw [h1, h2] at e <;> first | cases e | skip
      refine ⟨g, h1, ?_⟩
      cases q : Nat.blt i g1 with
      | true => exact .inl (Nat.le_of_ble_eq_true q)
      | false => rw [q] at h2; exact .inr (Nat.le_of_ble_eq_true h2)
noncomputable def Fine (V : Wb) (O : Out) : Prop := O.ok = true ∧ eqsOk O.eqs ∧ Go V O.st
theorem act_sound {den : Code → Sem PySem.Fin} {V : Wb} (hden : ∀ (A : Around) (c : Code) (Q : PySem.Fin → Shared → Prop) (E : Value → Shared → Prop) (s : Shared), A.depth < recursionLimit → wpOwn (model V.prog V.w) A c (den c) Q E s → wpOwn (model V.prog V.w) A c (denote table c) Q E s)
    (hA : V.A₀.depth ≤ V.dm) (hg : V.g1 ≤ V.g2) {go : Nat → List (Nat × Nat) → St → Out} (ih : ∀ cs eqs S, Fine V (go cs eqs S) → eqsOk eqs ∧ Go V S) (cs : Nat) (eqs : List (Nat × Nat)) (S : St) (x : Fine V (actZ den V.toWs go cs eqs S)) : eqsOk eqs ∧ Go V S := by
  obtain ⟨c, κ, t, T, m, nx, tk⟩ := S
  cases t with
  | pure fin =>
    cases fin with
    | done f => cases κ with
      | nil => cases x.1
      | cons y κ => exact ⟨(ih _ _ _ x).1, fun h D Γ p hc hΓ => (ih _ _ _ x).2 h D⟩
    | again c' =>
      have x : Fine V (match c'.quiet && Ko.room V.dm κ with | true => go cs eqs ⟨c', κ, den c', T, m, nx, tk⟩ | false => ⟨false, eqs, ⟨c, κ, .pure (.again c'), T, m, nx, tk⟩⟩) := x
      cases q : (c'.quiet && Ko.room V.dm κ) with
      | false => rw [q] at x; cases x.1
      | true =>
        rw [q] at x
        obtain ⟨q1, q2⟩ := Bool.and_eq_true_iff.mp q
        exact ⟨(ih _ _ _ x).1, fun h D => y_pure _ _ _ _ _ _ _ _ _ (y_again _ _ _ _ _ _ q1 (y_code _ _ _ _ _ _ (hden _ _ _ _ _ (room_ok hA q2) ((ih _ _ _ x).2 h D))))⟩
  | raise e => cases κ with
    | nil => cases x.1
    | cons y κ => exact ⟨(ih _ _ _ x).1, fun h D Γ p hc hΓ => (ih _ _ _ x).2 h D⟩
  | rule tag k => exact ⟨(ih _ _ _ x).1, fun h D Γ p hc hΓ => (ih _ _ _ x).2 h D Γ p hc hΓ⟩
  | «at» q k => exact ⟨(ih _ _ _ x).1, fun h D Γ p hc hΓ => (ih _ _ _ x).2 h D Γ q hc hΓ⟩
  | point l k => exact ⟨(ih _ _ _ x).1, fun h D Γ p hc hΓ => (ih _ _ _ x).2 h D Γ p hc hΓ⟩
  | ask k => exact ⟨(ih _ _ _ x).1, fun h D Γ p hc hΓ => (ih _ _ _ x).2 h D Γ p hc hΓ⟩
  | fresh k => exact ⟨(ih _ _ _ x).1, fun h D Γ p hc hΓ => (ih _ _ _ x).2 h D Γ p hc hΓ⟩
  | handled own k => cases own with
    | true => cases x.1
    | false => exact ⟨(ih _ _ _ x).1, fun h D => y_handled _ _ _ _ _ _ _ _ _ ((ih _ _ _ x).2 h D)⟩
  | load a q k =>
    have x : Fine V (match lookZ V.kt T (cs % 512) a with | some x => go (cs / 512) (pushE a x.1 eqs) ⟨c, κ, k x.2, T, m, nx, tk⟩ | none => ⟨false, eqs, ⟨c, κ, .load a q k, T, m, nx, tk⟩⟩) := x
    cases g : lookZ V.kt T (cs % 512) a with
    | none => rw [g] at x; cases x.1
    | some y =>
      rw [g] at x
      have z := ih _ _ _ x
      exact ⟨push_ok z.1, fun h D Γ p hc hΓ => ⟨y.2, look_ok D g z.1, z.2 h D Γ p hc hΓ⟩⟩
  | loadIfAlive a k =>
    have x : Fine V (match lookZ V.kt T (cs % 512) a with | some x => go (cs / 512) (pushE a x.1 eqs) ⟨c, κ, k (some x.2), T, m, nx, tk⟩ | none => ⟨false, eqs, ⟨c, κ, .loadIfAlive a k, T, m, nx, tk⟩⟩) := x
    cases g : lookZ V.kt T (cs % 512) a with
    | none => rw [g] at x; cases x.1
    | some y =>
      rw [g] at x
      have z := ih _ _ _ x
      refine ⟨push_ok z.1, fun h D Γ p hc hΓ => ?_⟩
      show Sem.wp _ Γ (k (h.get? a)) _ _ p _
      rw [look_ok D g z.1]
      exact z.2 h D Γ p hc hΓ
  | alloc o k =>
    have x : Fine V (match allocZ V.g2 m T o with | false => ⟨false, eqs, ⟨c, κ, .alloc o k, T, m, nx, tk⟩⟩ | true => objK o fun o' => T.putK m nx o' fun T' => match T'.get m with | some _ => go cs eqs ⟨c, κ, k nx, T', m + 1, nx + 1, tk⟩ | none => ⟨false, eqs, ⟨c, κ, .alloc o k, T, m, nx, tk⟩⟩) := x
    cases g : allocZ V.g2 m T o with
    | false => rw [g] at x; cases x.1
    | true =>
      rw [g] at x
      obtain ⟨hf, hb, hm⟩ := alloc_ok g
      have x : Fine V (objK o fun o' => T.putK m nx o' fun T' => match T'.get m with | some _ => go cs eqs ⟨c, κ, k nx, T', m + 1, nx + 1, tk⟩ | none => ⟨false, eqs, ⟨c, κ, .alloc o k, T, m, nx, tk⟩⟩) := x
      rw [objK_eq, LT.putK_eq] at x
      cases hp : (T.put m nx o).get m with
      | none => rw [hp] at x; cases x.1
      | some y =>
        rw [hp] at x
        have z := ih _ _ _ x
        refine ⟨z.1, fun h D Γ p hc hΓ => ?_⟩
        show Sem.wp _ Γ (k h.objs.size) _ _ p _
        rw [D.size]
        exact z.2 (h.push o) (D.alloc hf hb (Nat.not_lt.mpr (Nat.le_trans hg hb)) (by rw [hp]; rfl) hm) Γ p hc hΓ
  | update a q f k =>
    have x : Fine V (match updZ V.g1 V.g2 (cs % 512) T f with | some x => objK (f x.2.2) fun o => T.putK x.1 x.2.1 o fun T' => go (cs / 512) ((a, x.2.1) :: eqs) ⟨c, κ, k (), T', m, nx, tk⟩ | none => ⟨false, eqs, ⟨c, κ, .update a q f k, T, m, nx, tk⟩⟩) := x
    cases g : updZ V.g1 V.g2 (cs % 512) T f with
    | none => rw [g] at x; cases x.1
    | some y =>
      rw [g] at x
      have x : Fine V (objK (f y.2.2) fun o => T.putK y.1 y.2.1 o fun T' => go (cs / 512) ((a, y.2.1) :: eqs) ⟨c, κ, k (), T', m, nx, tk⟩) := x
      rw [objK_eq, LT.putK_eq] at x
      obtain ⟨e, hf, hb⟩ := upd_ok g
      have z := ih _ _ _ x
      have hab : a = y.2.1 := z.1.1
      subst hab
      exact ⟨z.1.2, fun h D Γ p hc hΓ => ⟨by show (h.get? y.2.1).isSome = true; rw [D.own _ _ _ e]; rfl, z.2 (h.update y.2.1 f) (D.update e hf hb) Γ p hc hΓ⟩⟩
  | call c' hd g l k =>
    have x : Fine V (match okMark hd && Ko.room V.dm ((c, hd, k) :: κ) with | true => go cs eqs ⟨c', (c, hd, k) :: κ, den c', T, m, nx, tk⟩ | false => ⟨false, eqs, ⟨c, κ, .call c' hd g l k, T, m, nx, tk⟩⟩) := x
    cases q : (okMark hd && Ko.room V.dm ((c, hd, k) :: κ)) with
    | false => rw [q] at x; cases x.1
    | true =>
      rw [q] at x
      obtain ⟨q1, q2⟩ := Bool.and_eq_true_iff.mp q
      have hnb : hd ≠ some byPass := by
        intro e
        subst e
        simp [okMark] at q1
      exact ⟨(ih _ _ _ x).1, fun h D => y_call _ _ _ _ _ _ _ _ _ _ _ _ _ hnb (y_code _ _ _ _ _ _ (hden _ _ _ _ _ (room_ok hA q2) ((ih _ _ _ x).2 h D)))⟩
  | _ => cases x.1
theorem run_fine {den : Code → Sem PySem.Fin} {V : Wb} (hden : ∀ (A : Around) (c : Code) (Q : PySem.Fin → Shared → Prop) (E : Value → Shared → Prop) (s : Shared), A.depth < recursionLimit → wpOwn (model V.prog V.w) A c (den c) Q E s → wpOwn (model V.prog V.w) A c (denote table c) Q E s)
    (hA : V.A₀.depth ≤ V.dm) (hg : V.g1 ≤ V.g2) : ∀ (n cs : Nat) (eqs : List (Nat × Nat)) (S : St), Fine V (run den V.toWs n cs eqs S) → eqsOk eqs ∧ Go V S
  | 0, _, _, _, x => x.2
  | n + 1, cs, eqs, S, x => act_sound hden hA hg (run_fine hden hA hg n) cs eqs S x
theorem run_sound {den : Code → Sem PySem.Fin} {V : Wb} (hden : ∀ (A : Around) (c : Code) (Q : PySem.Fin → Shared → Prop) (E : Value → Shared → Prop) (s : Shared), A.depth < recursionLimit → wpOwn (model V.prog V.w) A c (den c) Q E s → wpOwn (model V.prog V.w) A c (denote table c) Q E s)
    (hA : V.A₀.depth ≤ V.dm) (hg : V.g1 ≤ V.g2) (n cs : Nat) (eqs : List (Nat × Nat)) (S : St) (h1 : (run den V.toWs n cs eqs S).ok = true) (h2 : eqsOk (run den V.toWs n cs eqs S).eqs) (h3 : Go V (run den V.toWs n cs eqs S).st) : Go V S :=
  (run_fine hden hA hg n cs eqs S ⟨h1, h2, h3⟩).2
end Mine
end
section
namespace Mine
/-! the objects that the walk meets (printed by a program of ours) -/
noncomputable def fdP : Stmt → Arguments
  | .FunctionDef _ a _ _ _ _ _ _ _ _ => a
  | _ => ⟨[], [], none, [], [], none, []⟩
noncomputable def fdB : Stmt → List Stmt
  | .FunctionDef _ _ b _ _ _ _ _ _ _ => b
  | _ => []
noncomputable def fdS : Stmt → Scope
  | .FunctionDef _ _ _ _ _ _ s _ _ _ => s
  | _ => default
noncomputable def st (i : Nat) : Stmt := (PySem.Challenge.pw_pf0369_01.main.body[i]?).getD (.Pass default)
noncomputable def stIn (i j : Nat) : Stmt := match st i with
  | .ClassDef _ _ _ b _ _ _ _ _ _ _ => (b[j]?).getD (.Pass default)
  | s => s
noncomputable def q0 : Str := ⟨⟨[nat_lit 95, nat_lit 95, nat_lit 110, nat_lit 97, nat_lit 109, nat_lit 101, nat_lit 95, nat_lit 95]⟩⟩
noncomputable def q1 : Str := ⟨⟨[nat_lit 98, nat_lit 117, nat_lit 105, nat_lit 108, nat_lit 116, nat_lit 105, nat_lit 110, nat_lit 115]⟩⟩
noncomputable def q2 : Str := ⟨⟨[nat_lit 95, nat_lit 95, nat_lit 100, nat_lit 111, nat_lit 99, nat_lit 95, nat_lit 95]⟩⟩
noncomputable def q3 : Str := ⟨⟨[nat_lit 95, nat_lit 95, nat_lit 112, nat_lit 97, nat_lit 99, nat_lit 107, nat_lit 97, nat_lit 103, nat_lit 101, nat_lit 95, nat_lit 95]⟩⟩
noncomputable def q4 : Str := ⟨⟨[nat_lit 95, nat_lit 95, nat_lit 108, nat_lit 111, nat_lit 97, nat_lit 100, nat_lit 101, nat_lit 114, nat_lit 95, nat_lit 95]⟩⟩
noncomputable def q5 : Str := ⟨⟨[nat_lit 95, nat_lit 95, nat_lit 115, nat_lit 112, nat_lit 101, nat_lit 99, nat_lit 95, nat_lit 95]⟩⟩
noncomputable def q6 : Str := ⟨⟨[nat_lit 95, nat_lit 95, nat_lit 98, nat_lit 117, nat_lit 105, nat_lit 108, nat_lit 100, nat_lit 95, nat_lit 99, nat_lit 108, nat_lit 97, nat_lit 115, nat_lit 115, nat_lit 95, nat_lit 95]⟩⟩
noncomputable def q7 : Str := ⟨⟨[nat_lit 95, nat_lit 95, nat_lit 105, nat_lit 109, nat_lit 112, nat_lit 111, nat_lit 114, nat_lit 116, nat_lit 95, nat_lit 95]⟩⟩
noncomputable def q8 : Str := ⟨⟨[nat_lit 97, nat_lit 98, nat_lit 115]⟩⟩
noncomputable def q9 : Str := ⟨⟨[nat_lit 97, nat_lit 108, nat_lit 108]⟩⟩
noncomputable def q10 : Str := ⟨⟨[nat_lit 97, nat_lit 110, nat_lit 121]⟩⟩
noncomputable def q11 : Str := ⟨⟨[nat_lit 97, nat_lit 115, nat_lit 99, nat_lit 105, nat_lit 105]⟩⟩
noncomputable def q12 : Str := ⟨⟨[nat_lit 98, nat_lit 105, nat_lit 110]⟩⟩
noncomputable def q13 : Str := ⟨⟨[nat_lit 98, nat_lit 114, nat_lit 101, nat_lit 97, nat_lit 107, nat_lit 112, nat_lit 111, nat_lit 105, nat_lit 110, nat_lit 116]⟩⟩
noncomputable def q14 : Str := ⟨⟨[nat_lit 99, nat_lit 97, nat_lit 108, nat_lit 108, nat_lit 97, nat_lit 98, nat_lit 108, nat_lit 101]⟩⟩
noncomputable def q15 : Str := ⟨⟨[nat_lit 99, nat_lit 104, nat_lit 114]⟩⟩
noncomputable def q16 : Str := ⟨⟨[nat_lit 99, nat_lit 111, nat_lit 109, nat_lit 112, nat_lit 105, nat_lit 108, nat_lit 101]⟩⟩
noncomputable def q17 : Str := ⟨⟨[nat_lit 100, nat_lit 101, nat_lit 108, nat_lit 97, nat_lit 116, nat_lit 116, nat_lit 114]⟩⟩
noncomputable def q18 : Str := ⟨⟨[nat_lit 100, nat_lit 105, nat_lit 114]⟩⟩
noncomputable def q19 : Str := ⟨⟨[nat_lit 100, nat_lit 105, nat_lit 118, nat_lit 109, nat_lit 111, nat_lit 100]⟩⟩
noncomputable def q20 : Str := ⟨⟨[nat_lit 101, nat_lit 118, nat_lit 97, nat_lit 108]⟩⟩
noncomputable def q21 : Str := ⟨⟨[nat_lit 101, nat_lit 120, nat_lit 101, nat_lit 99]⟩⟩
noncomputable def q22 : Str := ⟨⟨[nat_lit 102, nat_lit 111, nat_lit 114, nat_lit 109, nat_lit 97, nat_lit 116]⟩⟩
noncomputable def q23 : Str := ⟨⟨[nat_lit 103, nat_lit 101, nat_lit 116, nat_lit 97, nat_lit 116, nat_lit 116, nat_lit 114]⟩⟩
noncomputable def q24 : Str := ⟨⟨[nat_lit 103, nat_lit 108, nat_lit 111, nat_lit 98, nat_lit 97, nat_lit 108, nat_lit 115]⟩⟩
noncomputable def q25 : Str := ⟨⟨[nat_lit 104, nat_lit 97, nat_lit 115, nat_lit 97, nat_lit 116, nat_lit 116, nat_lit 114]⟩⟩
noncomputable def q26 : Str := ⟨⟨[nat_lit 104, nat_lit 97, nat_lit 115, nat_lit 104]⟩⟩
noncomputable def q27 : Str := ⟨⟨[nat_lit 104, nat_lit 101, nat_lit 120]⟩⟩
noncomputable def q28 : Str := ⟨⟨[nat_lit 105, nat_lit 100]⟩⟩
noncomputable def q29 : Str := ⟨⟨[nat_lit 105, nat_lit 110, nat_lit 112, nat_lit 117, nat_lit 116]⟩⟩
noncomputable def q30 : Str := ⟨⟨[nat_lit 105, nat_lit 115, nat_lit 105, nat_lit 110, nat_lit 115, nat_lit 116, nat_lit 97, nat_lit 110, nat_lit 99, nat_lit 101]⟩⟩
noncomputable def q31 : Str := ⟨⟨[nat_lit 105, nat_lit 115, nat_lit 115, nat_lit 117, nat_lit 98, nat_lit 99, nat_lit 108, nat_lit 97, nat_lit 115, nat_lit 115]⟩⟩
noncomputable def q32 : Str := ⟨⟨[nat_lit 105, nat_lit 116, nat_lit 101, nat_lit 114]⟩⟩
noncomputable def q33 : Str := ⟨⟨[nat_lit 97, nat_lit 105, nat_lit 116, nat_lit 101, nat_lit 114]⟩⟩
noncomputable def q34 : Str := ⟨⟨[nat_lit 108, nat_lit 101, nat_lit 110]⟩⟩
noncomputable def q35 : Str := ⟨⟨[nat_lit 108, nat_lit 111, nat_lit 99, nat_lit 97, nat_lit 108, nat_lit 115]⟩⟩
noncomputable def q36 : Str := ⟨⟨[nat_lit 109, nat_lit 97, nat_lit 120]⟩⟩
noncomputable def q37 : Str := ⟨⟨[nat_lit 109, nat_lit 105, nat_lit 110]⟩⟩
noncomputable def q38 : Str := ⟨⟨[nat_lit 110, nat_lit 101, nat_lit 120, nat_lit 116]⟩⟩
noncomputable def q39 : Str := ⟨⟨[nat_lit 97, nat_lit 110, nat_lit 101, nat_lit 120, nat_lit 116]⟩⟩
noncomputable def q40 : Str := ⟨⟨[nat_lit 111, nat_lit 99, nat_lit 116]⟩⟩
noncomputable def q41 : Str := ⟨⟨[nat_lit 111, nat_lit 114, nat_lit 100]⟩⟩
noncomputable def q42 : Str := ⟨⟨[nat_lit 112, nat_lit 111, nat_lit 119]⟩⟩
noncomputable def q43 : Str := ⟨⟨[nat_lit 112, nat_lit 114, nat_lit 105, nat_lit 110, nat_lit 116]⟩⟩
noncomputable def q44 : Str := ⟨⟨[nat_lit 114, nat_lit 101, nat_lit 112, nat_lit 114]⟩⟩
noncomputable def q45 : Str := ⟨⟨[nat_lit 114, nat_lit 111, nat_lit 117, nat_lit 110, nat_lit 100]⟩⟩
noncomputable def q46 : Str := ⟨⟨[nat_lit 115, nat_lit 101, nat_lit 116, nat_lit 97, nat_lit 116, nat_lit 116, nat_lit 114]⟩⟩
noncomputable def q47 : Str := ⟨⟨[nat_lit 115, nat_lit 111, nat_lit 114, nat_lit 116, nat_lit 101, nat_lit 100]⟩⟩
noncomputable def q48 : Str := ⟨⟨[nat_lit 115, nat_lit 117, nat_lit 109]⟩⟩
noncomputable def q49 : Str := ⟨⟨[nat_lit 118, nat_lit 97, nat_lit 114, nat_lit 115]⟩⟩
noncomputable def q50 : Str := ⟨⟨[nat_lit 78, nat_lit 111, nat_lit 110, nat_lit 101]⟩⟩
noncomputable def q51 : Str := ⟨⟨[nat_lit 69, nat_lit 108, nat_lit 108, nat_lit 105, nat_lit 112, nat_lit 115, nat_lit 105, nat_lit 115]⟩⟩
noncomputable def q52 : Str := ⟨⟨[nat_lit 78, nat_lit 111, nat_lit 116, nat_lit 73, nat_lit 109, nat_lit 112, nat_lit 108, nat_lit 101, nat_lit 109, nat_lit 101, nat_lit 110, nat_lit 116, nat_lit 101, nat_lit 100]⟩⟩
noncomputable def q53 : Str := ⟨⟨[nat_lit 70, nat_lit 97, nat_lit 108, nat_lit 115, nat_lit 101]⟩⟩
noncomputable def q54 : Str := ⟨⟨[nat_lit 84, nat_lit 114, nat_lit 117, nat_lit 101]⟩⟩
noncomputable def q55 : Str := ⟨⟨[nat_lit 98, nat_lit 111, nat_lit 111, nat_lit 108]⟩⟩
noncomputable def q56 : Str := ⟨⟨[nat_lit 109, nat_lit 101, nat_lit 109, nat_lit 111, nat_lit 114, nat_lit 121, nat_lit 118, nat_lit 105, nat_lit 101, nat_lit 119]⟩⟩
noncomputable def q57 : Str := ⟨⟨[nat_lit 98, nat_lit 121, nat_lit 116, nat_lit 101, nat_lit 97, nat_lit 114, nat_lit 114, nat_lit 97, nat_lit 121]⟩⟩
noncomputable def q58 : Str := ⟨⟨[nat_lit 98, nat_lit 121, nat_lit 116, nat_lit 101, nat_lit 115]⟩⟩
noncomputable def q59 : Str := ⟨⟨[nat_lit 99, nat_lit 108, nat_lit 97, nat_lit 115, nat_lit 115, nat_lit 109, nat_lit 101, nat_lit 116, nat_lit 104, nat_lit 111, nat_lit 100]⟩⟩
noncomputable def q60 : Str := ⟨⟨[nat_lit 99, nat_lit 111, nat_lit 109, nat_lit 112, nat_lit 108, nat_lit 101, nat_lit 120]⟩⟩
noncomputable def q61 : Str := ⟨⟨[nat_lit 100, nat_lit 105, nat_lit 99, nat_lit 116]⟩⟩
noncomputable def q62 : Str := ⟨⟨[nat_lit 101, nat_lit 110, nat_lit 117, nat_lit 109, nat_lit 101, nat_lit 114, nat_lit 97, nat_lit 116, nat_lit 101]⟩⟩
noncomputable def q63 : Str := ⟨⟨[nat_lit 102, nat_lit 105, nat_lit 108, nat_lit 116, nat_lit 101, nat_lit 114]⟩⟩
noncomputable def q64 : Str := ⟨⟨[nat_lit 102, nat_lit 108, nat_lit 111, nat_lit 97, nat_lit 116]⟩⟩
noncomputable def q65 : Str := ⟨⟨[nat_lit 102, nat_lit 114, nat_lit 111, nat_lit 122, nat_lit 101, nat_lit 110, nat_lit 115, nat_lit 101, nat_lit 116]⟩⟩
noncomputable def q66 : Str := ⟨⟨[nat_lit 112, nat_lit 114, nat_lit 111, nat_lit 112, nat_lit 101, nat_lit 114, nat_lit 116, nat_lit 121]⟩⟩
noncomputable def q67 : Str := ⟨⟨[nat_lit 105, nat_lit 110, nat_lit 116]⟩⟩
noncomputable def q68 : Str := ⟨⟨[nat_lit 108, nat_lit 105, nat_lit 115, nat_lit 116]⟩⟩
noncomputable def q69 : Str := ⟨⟨[nat_lit 109, nat_lit 97, nat_lit 112]⟩⟩
noncomputable def q70 : Str := ⟨⟨[nat_lit 111, nat_lit 98, nat_lit 106, nat_lit 101, nat_lit 99, nat_lit 116]⟩⟩
noncomputable def q71 : Str := ⟨⟨[nat_lit 114, nat_lit 97, nat_lit 110, nat_lit 103, nat_lit 101]⟩⟩
noncomputable def q72 : Str := ⟨⟨[nat_lit 114, nat_lit 101, nat_lit 118, nat_lit 101, nat_lit 114, nat_lit 115, nat_lit 101, nat_lit 100]⟩⟩
noncomputable def q73 : Str := ⟨⟨[nat_lit 115, nat_lit 101, nat_lit 116]⟩⟩
noncomputable def q74 : Str := ⟨⟨[nat_lit 115, nat_lit 108, nat_lit 105, nat_lit 99, nat_lit 101]⟩⟩
noncomputable def q75 : Str := ⟨⟨[nat_lit 115, nat_lit 116, nat_lit 97, nat_lit 116, nat_lit 105, nat_lit 99, nat_lit 109, nat_lit 101, nat_lit 116, nat_lit 104, nat_lit 111, nat_lit 100]⟩⟩
noncomputable def q76 : Str := ⟨⟨[nat_lit 115, nat_lit 116, nat_lit 114]⟩⟩
noncomputable def q77 : Str := ⟨⟨[nat_lit 115, nat_lit 117, nat_lit 112, nat_lit 101, nat_lit 114]⟩⟩
noncomputable def q78 : Str := ⟨⟨[nat_lit 116, nat_lit 117, nat_lit 112, nat_lit 108, nat_lit 101]⟩⟩
noncomputable def q79 : Str := ⟨⟨[nat_lit 116, nat_lit 121, nat_lit 112, nat_lit 101]⟩⟩
noncomputable def q80 : Str := ⟨⟨[nat_lit 122, nat_lit 105, nat_lit 112]⟩⟩
noncomputable def q81 : Str := ⟨⟨[nat_lit 95, nat_lit 95, nat_lit 100, nat_lit 101, nat_lit 98, nat_lit 117, nat_lit 103, nat_lit 95, nat_lit 95]⟩⟩
noncomputable def q82 : Str := ⟨⟨[nat_lit 66, nat_lit 97, nat_lit 115, nat_lit 101, nat_lit 69, nat_lit 120, nat_lit 99, nat_lit 101, nat_lit 112, nat_lit 116, nat_lit 105, nat_lit 111, nat_lit 110]⟩⟩
noncomputable def q83 : Str := ⟨⟨[nat_lit 66, nat_lit 97, nat_lit 115, nat_lit 101, nat_lit 69, nat_lit 120, nat_lit 99, nat_lit 101, nat_lit 112, nat_lit 116, nat_lit 105, nat_lit 111, nat_lit 110, nat_lit 71, nat_lit 114, nat_lit 111, nat_lit 117, nat_lit 112]⟩⟩
noncomputable def q84 : Str := ⟨⟨[nat_lit 69, nat_lit 120, nat_lit 99, nat_lit 101, nat_lit 112, nat_lit 116, nat_lit 105, nat_lit 111, nat_lit 110]⟩⟩
noncomputable def q85 : Str := ⟨⟨[nat_lit 71, nat_lit 101, nat_lit 110, nat_lit 101, nat_lit 114, nat_lit 97, nat_lit 116, nat_lit 111, nat_lit 114, nat_lit 69, nat_lit 120, nat_lit 105, nat_lit 116]⟩⟩
noncomputable def q86 : Str := ⟨⟨[nat_lit 75, nat_lit 101, nat_lit 121, nat_lit 98, nat_lit 111, nat_lit 97, nat_lit 114, nat_lit 100, nat_lit 73, nat_lit 110, nat_lit 116, nat_lit 101, nat_lit 114, nat_lit 114, nat_lit 117, nat_lit 112, nat_lit 116]⟩⟩
noncomputable def q87 : Str := ⟨⟨[nat_lit 83, nat_lit 121, nat_lit 115, nat_lit 116, nat_lit 101, nat_lit 109, nat_lit 69, nat_lit 120, nat_lit 105, nat_lit 116]⟩⟩
noncomputable def q88 : Str := ⟨⟨[nat_lit 65, nat_lit 114, nat_lit 105, nat_lit 116, nat_lit 104, nat_lit 109, nat_lit 101, nat_lit 116, nat_lit 105, nat_lit 99, nat_lit 69, nat_lit 114, nat_lit 114, nat_lit 111, nat_lit 114]⟩⟩
noncomputable def q89 : Str := ⟨⟨[nat_lit 65, nat_lit 115, nat_lit 115, nat_lit 101, nat_lit 114, nat_lit 116, nat_lit 105, nat_lit 111, nat_lit 110, nat_lit 69, nat_lit 114, nat_lit 114, nat_lit 111, nat_lit 114]⟩⟩
noncomputable def q90 : Str := ⟨⟨[nat_lit 65, nat_lit 116, nat_lit 116, nat_lit 114, nat_lit 105, nat_lit 98, nat_lit 117, nat_lit 116, nat_lit 101, nat_lit 69, nat_lit 114, nat_lit 114, nat_lit 111, nat_lit 114]⟩⟩
noncomputable def q91 : Str := ⟨⟨[nat_lit 66, nat_lit 117, nat_lit 102, nat_lit 102, nat_lit 101, nat_lit 114, nat_lit 69, nat_lit 114, nat_lit 114, nat_lit 111, nat_lit 114]⟩⟩
noncomputable def q92 : Str := ⟨⟨[nat_lit 69, nat_lit 79, nat_lit 70, nat_lit 69, nat_lit 114, nat_lit 114, nat_lit 111, nat_lit 114]⟩⟩
noncomputable def q93 : Str := ⟨⟨[nat_lit 73, nat_lit 109, nat_lit 112, nat_lit 111, nat_lit 114, nat_lit 116, nat_lit 69, nat_lit 114, nat_lit 114, nat_lit 111, nat_lit 114]⟩⟩
noncomputable def q94 : Str := ⟨⟨[nat_lit 76, nat_lit 111, nat_lit 111, nat_lit 107, nat_lit 117, nat_lit 112, nat_lit 69, nat_lit 114, nat_lit 114, nat_lit 111, nat_lit 114]⟩⟩
noncomputable def q95 : Str := ⟨⟨[nat_lit 77, nat_lit 101, nat_lit 109, nat_lit 111, nat_lit 114, nat_lit 121, nat_lit 69, nat_lit 114, nat_lit 114, nat_lit 111, nat_lit 114]⟩⟩
noncomputable def q96 : Str := ⟨⟨[nat_lit 78, nat_lit 97, nat_lit 109, nat_lit 101, nat_lit 69, nat_lit 114, nat_lit 114, nat_lit 111, nat_lit 114]⟩⟩
noncomputable def q97 : Str := ⟨⟨[nat_lit 79, nat_lit 83, nat_lit 69, nat_lit 114, nat_lit 114, nat_lit 111, nat_lit 114]⟩⟩
noncomputable def q98 : Str := ⟨⟨[nat_lit 82, nat_lit 101, nat_lit 102, nat_lit 101, nat_lit 114, nat_lit 101, nat_lit 110, nat_lit 99, nat_lit 101, nat_lit 69, nat_lit 114, nat_lit 114, nat_lit 111, nat_lit 114]⟩⟩
noncomputable def q99 : Str := ⟨⟨[nat_lit 82, nat_lit 117, nat_lit 110, nat_lit 116, nat_lit 105, nat_lit 109, nat_lit 101, nat_lit 69, nat_lit 114, nat_lit 114, nat_lit 111, nat_lit 114]⟩⟩
noncomputable def q100 : Str := ⟨⟨[nat_lit 83, nat_lit 116, nat_lit 111, nat_lit 112, nat_lit 65, nat_lit 115, nat_lit 121, nat_lit 110, nat_lit 99, nat_lit 73, nat_lit 116, nat_lit 101, nat_lit 114, nat_lit 97, nat_lit 116, nat_lit 105, nat_lit 111, nat_lit 110]⟩⟩
noncomputable def q101 : Str := ⟨⟨[nat_lit 83, nat_lit 116, nat_lit 111, nat_lit 112, nat_lit 73, nat_lit 116, nat_lit 101, nat_lit 114, nat_lit 97, nat_lit 116, nat_lit 105, nat_lit 111, nat_lit 110]⟩⟩
noncomputable def q102 : Str := ⟨⟨[nat_lit 83, nat_lit 121, nat_lit 110, nat_lit 116, nat_lit 97, nat_lit 120, nat_lit 69, nat_lit 114, nat_lit 114, nat_lit 111, nat_lit 114]⟩⟩
noncomputable def q103 : Str := ⟨⟨[nat_lit 83, nat_lit 121, nat_lit 115, nat_lit 116, nat_lit 101, nat_lit 109, nat_lit 69, nat_lit 114, nat_lit 114, nat_lit 111, nat_lit 114]⟩⟩
noncomputable def q104 : Str := ⟨⟨[nat_lit 84, nat_lit 121, nat_lit 112, nat_lit 101, nat_lit 69, nat_lit 114, nat_lit 114, nat_lit 111, nat_lit 114]⟩⟩
noncomputable def q105 : Str := ⟨⟨[nat_lit 86, nat_lit 97, nat_lit 108, nat_lit 117, nat_lit 101, nat_lit 69, nat_lit 114, nat_lit 114, nat_lit 111, nat_lit 114]⟩⟩
noncomputable def q106 : Str := ⟨⟨[nat_lit 87, nat_lit 97, nat_lit 114, nat_lit 110, nat_lit 105, nat_lit 110, nat_lit 103]⟩⟩
noncomputable def q107 : Str := ⟨⟨[nat_lit 70, nat_lit 108, nat_lit 111, nat_lit 97, nat_lit 116, nat_lit 105, nat_lit 110, nat_lit 103, nat_lit 80, nat_lit 111, nat_lit 105, nat_lit 110, nat_lit 116, nat_lit 69, nat_lit 114, nat_lit 114, nat_lit 111, nat_lit 114]⟩⟩
noncomputable def q108 : Str := ⟨⟨[nat_lit 79, nat_lit 118, nat_lit 101, nat_lit 114, nat_lit 102, nat_lit 108, nat_lit 111, nat_lit 119, nat_lit 69, nat_lit 114, nat_lit 114, nat_lit 111, nat_lit 114]⟩⟩
noncomputable def q109 : Str := ⟨⟨[nat_lit 90, nat_lit 101, nat_lit 114, nat_lit 111, nat_lit 68, nat_lit 105, nat_lit 118, nat_lit 105, nat_lit 115, nat_lit 105, nat_lit 111, nat_lit 110, nat_lit 69, nat_lit 114, nat_lit 114, nat_lit 111, nat_lit 114]⟩⟩
noncomputable def q110 : Str := ⟨⟨[nat_lit 66, nat_lit 121, nat_lit 116, nat_lit 101, nat_lit 115, nat_lit 87, nat_lit 97, nat_lit 114, nat_lit 110, nat_lit 105, nat_lit 110, nat_lit 103]⟩⟩
noncomputable def q111 : Str := ⟨⟨[nat_lit 68, nat_lit 101, nat_lit 112, nat_lit 114, nat_lit 101, nat_lit 99, nat_lit 97, nat_lit 116, nat_lit 105, nat_lit 111, nat_lit 110, nat_lit 87, nat_lit 97, nat_lit 114, nat_lit 110, nat_lit 105, nat_lit 110, nat_lit 103]⟩⟩
noncomputable def q112 : Str := ⟨⟨[nat_lit 69, nat_lit 110, nat_lit 99, nat_lit 111, nat_lit 100, nat_lit 105, nat_lit 110, nat_lit 103, nat_lit 87, nat_lit 97, nat_lit 114, nat_lit 110, nat_lit 105, nat_lit 110, nat_lit 103]⟩⟩
noncomputable def q113 : Str := ⟨⟨[nat_lit 70, nat_lit 117, nat_lit 116, nat_lit 117, nat_lit 114, nat_lit 101, nat_lit 87, nat_lit 97, nat_lit 114, nat_lit 110, nat_lit 105, nat_lit 110, nat_lit 103]⟩⟩
noncomputable def q114 : Str := ⟨⟨[nat_lit 73, nat_lit 109, nat_lit 112, nat_lit 111, nat_lit 114, nat_lit 116, nat_lit 87, nat_lit 97, nat_lit 114, nat_lit 110, nat_lit 105, nat_lit 110, nat_lit 103]⟩⟩
noncomputable def q115 : Str := ⟨⟨[nat_lit 80, nat_lit 101, nat_lit 110, nat_lit 100, nat_lit 105, nat_lit 110, nat_lit 103, nat_lit 68, nat_lit 101, nat_lit 112, nat_lit 114, nat_lit 101, nat_lit 99, nat_lit 97, nat_lit 116, nat_lit 105, nat_lit 111, nat_lit 110, nat_lit 87, nat_lit 97, nat_lit 114, nat_lit 110, nat_lit 105, nat_lit 110, nat_lit 103]⟩⟩
noncomputable def q116 : Str := ⟨⟨[nat_lit 82, nat_lit 101, nat_lit 115, nat_lit 111, nat_lit 117, nat_lit 114, nat_lit 99, nat_lit 101, nat_lit 87, nat_lit 97, nat_lit 114, nat_lit 110, nat_lit 105, nat_lit 110, nat_lit 103]⟩⟩
noncomputable def q117 : Str := ⟨⟨[nat_lit 82, nat_lit 117, nat_lit 110, nat_lit 116, nat_lit 105, nat_lit 109, nat_lit 101, nat_lit 87, nat_lit 97, nat_lit 114, nat_lit 110, nat_lit 105, nat_lit 110, nat_lit 103]⟩⟩
noncomputable def q118 : Str := ⟨⟨[nat_lit 83, nat_lit 121, nat_lit 110, nat_lit 116, nat_lit 97, nat_lit 120, nat_lit 87, nat_lit 97, nat_lit 114, nat_lit 110, nat_lit 105, nat_lit 110, nat_lit 103]⟩⟩
noncomputable def q119 : Str := ⟨⟨[nat_lit 85, nat_lit 110, nat_lit 105, nat_lit 99, nat_lit 111, nat_lit 100, nat_lit 101, nat_lit 87, nat_lit 97, nat_lit 114, nat_lit 110, nat_lit 105, nat_lit 110, nat_lit 103]⟩⟩
noncomputable def q120 : Str := ⟨⟨[nat_lit 85, nat_lit 115, nat_lit 101, nat_lit 114, nat_lit 87, nat_lit 97, nat_lit 114, nat_lit 110, nat_lit 105, nat_lit 110, nat_lit 103]⟩⟩
noncomputable def q121 : Str := ⟨⟨[nat_lit 66, nat_lit 108, nat_lit 111, nat_lit 99, nat_lit 107, nat_lit 105, nat_lit 110, nat_lit 103, nat_lit 73, nat_lit 79, nat_lit 69, nat_lit 114, nat_lit 114, nat_lit 111, nat_lit 114]⟩⟩
noncomputable def q122 : Str := ⟨⟨[nat_lit 67, nat_lit 104, nat_lit 105, nat_lit 108, nat_lit 100, nat_lit 80, nat_lit 114, nat_lit 111, nat_lit 99, nat_lit 101, nat_lit 115, nat_lit 115, nat_lit 69, nat_lit 114, nat_lit 114, nat_lit 111, nat_lit 114]⟩⟩
noncomputable def q123 : Str := ⟨⟨[nat_lit 67, nat_lit 111, nat_lit 110, nat_lit 110, nat_lit 101, nat_lit 99, nat_lit 116, nat_lit 105, nat_lit 111, nat_lit 110, nat_lit 69, nat_lit 114, nat_lit 114, nat_lit 111, nat_lit 114]⟩⟩
noncomputable def q124 : Str := ⟨⟨[nat_lit 70, nat_lit 105, nat_lit 108, nat_lit 101, nat_lit 69, nat_lit 120, nat_lit 105, nat_lit 115, nat_lit 116, nat_lit 115, nat_lit 69, nat_lit 114, nat_lit 114, nat_lit 111, nat_lit 114]⟩⟩
noncomputable def q125 : Str := ⟨⟨[nat_lit 70, nat_lit 105, nat_lit 108, nat_lit 101, nat_lit 78, nat_lit 111, nat_lit 116, nat_lit 70, nat_lit 111, nat_lit 117, nat_lit 110, nat_lit 100, nat_lit 69, nat_lit 114, nat_lit 114, nat_lit 111, nat_lit 114]⟩⟩
noncomputable def q126 : Str := ⟨⟨[nat_lit 73, nat_lit 110, nat_lit 116, nat_lit 101, nat_lit 114, nat_lit 114, nat_lit 117, nat_lit 112, nat_lit 116, nat_lit 101, nat_lit 100, nat_lit 69, nat_lit 114, nat_lit 114, nat_lit 111, nat_lit 114]⟩⟩
noncomputable def q127 : Str := ⟨⟨[nat_lit 73, nat_lit 115, nat_lit 65, nat_lit 68, nat_lit 105, nat_lit 114, nat_lit 101, nat_lit 99, nat_lit 116, nat_lit 111, nat_lit 114, nat_lit 121, nat_lit 69, nat_lit 114, nat_lit 114, nat_lit 111, nat_lit 114]⟩⟩
noncomputable def q128 : Str := ⟨⟨[nat_lit 78, nat_lit 111, nat_lit 116, nat_lit 65, nat_lit 68, nat_lit 105, nat_lit 114, nat_lit 101, nat_lit 99, nat_lit 116, nat_lit 111, nat_lit 114, nat_lit 121, nat_lit 69, nat_lit 114, nat_lit 114, nat_lit 111, nat_lit 114]⟩⟩
noncomputable def q129 : Str := ⟨⟨[nat_lit 80, nat_lit 101, nat_lit 114, nat_lit 109, nat_lit 105, nat_lit 115, nat_lit 115, nat_lit 105, nat_lit 111, nat_lit 110, nat_lit 69, nat_lit 114, nat_lit 114, nat_lit 111, nat_lit 114]⟩⟩
noncomputable def q130 : Str := ⟨⟨[nat_lit 80, nat_lit 114, nat_lit 111, nat_lit 99, nat_lit 101, nat_lit 115, nat_lit 115, nat_lit 76, nat_lit 111, nat_lit 111, nat_lit 107, nat_lit 117, nat_lit 112, nat_lit 69, nat_lit 114, nat_lit 114, nat_lit 111, nat_lit 114]⟩⟩
noncomputable def q131 : Str := ⟨⟨[nat_lit 84, nat_lit 105, nat_lit 109, nat_lit 101, nat_lit 111, nat_lit 117, nat_lit 116, nat_lit 69, nat_lit 114, nat_lit 114, nat_lit 111, nat_lit 114]⟩⟩
noncomputable def q132 : Str := ⟨⟨[nat_lit 73, nat_lit 110, nat_lit 100, nat_lit 101, nat_lit 110, nat_lit 116, nat_lit 97, nat_lit 116, nat_lit 105, nat_lit 111, nat_lit 110, nat_lit 69, nat_lit 114, nat_lit 114, nat_lit 111, nat_lit 114]⟩⟩
noncomputable def q133 : Str := ⟨⟨[nat_lit 95, nat_lit 73, nat_lit 110, nat_lit 99, nat_lit 111, nat_lit 109, nat_lit 112, nat_lit 108, nat_lit 101, nat_lit 116, nat_lit 101, nat_lit 73, nat_lit 110, nat_lit 112, nat_lit 117, nat_lit 116, nat_lit 69, nat_lit 114, nat_lit 114, nat_lit 111, nat_lit 114]⟩⟩
noncomputable def q134 : Str := ⟨⟨[nat_lit 73, nat_lit 110, nat_lit 100, nat_lit 101, nat_lit 120, nat_lit 69, nat_lit 114, nat_lit 114, nat_lit 111, nat_lit 114]⟩⟩
noncomputable def q135 : Str := ⟨⟨[nat_lit 75, nat_lit 101, nat_lit 121, nat_lit 69, nat_lit 114, nat_lit 114, nat_lit 111, nat_lit 114]⟩⟩
noncomputable def q136 : Str := ⟨⟨[nat_lit 77, nat_lit 111, nat_lit 100, nat_lit 117, nat_lit 108, nat_lit 101, nat_lit 78, nat_lit 111, nat_lit 116, nat_lit 70, nat_lit 111, nat_lit 117, nat_lit 110, nat_lit 100, nat_lit 69, nat_lit 114, nat_lit 114, nat_lit 111, nat_lit 114]⟩⟩
noncomputable def q137 : Str := ⟨⟨[nat_lit 78, nat_lit 111, nat_lit 116, nat_lit 73, nat_lit 109, nat_lit 112, nat_lit 108, nat_lit 101, nat_lit 109, nat_lit 101, nat_lit 110, nat_lit 116, nat_lit 101, nat_lit 100, nat_lit 69, nat_lit 114, nat_lit 114, nat_lit 111, nat_lit 114]⟩⟩
noncomputable def q138 : Str := ⟨⟨[nat_lit 80, nat_lit 121, nat_lit 116, nat_lit 104, nat_lit 111, nat_lit 110, nat_lit 70, nat_lit 105, nat_lit 110, nat_lit 97, nat_lit 108, nat_lit 105, nat_lit 122, nat_lit 97, nat_lit 116, nat_lit 105, nat_lit 111, nat_lit 110, nat_lit 69, nat_lit 114, nat_lit 114, nat_lit 111, nat_lit 114]⟩⟩
noncomputable def q139 : Str := ⟨⟨[nat_lit 82, nat_lit 101, nat_lit 99, nat_lit 117, nat_lit 114, nat_lit 115, nat_lit 105, nat_lit 111, nat_lit 110, nat_lit 69, nat_lit 114, nat_lit 114, nat_lit 111, nat_lit 114]⟩⟩
noncomputable def q140 : Str := ⟨⟨[nat_lit 85, nat_lit 110, nat_lit 98, nat_lit 111, nat_lit 117, nat_lit 110, nat_lit 100, nat_lit 76, nat_lit 111, nat_lit 99, nat_lit 97, nat_lit 108, nat_lit 69, nat_lit 114, nat_lit 114, nat_lit 111, nat_lit 114]⟩⟩
noncomputable def q141 : Str := ⟨⟨[nat_lit 85, nat_lit 110, nat_lit 105, nat_lit 99, nat_lit 111, nat_lit 100, nat_lit 101, nat_lit 69, nat_lit 114, nat_lit 114, nat_lit 111, nat_lit 114]⟩⟩
noncomputable def q142 : Str := ⟨⟨[nat_lit 66, nat_lit 114, nat_lit 111, nat_lit 107, nat_lit 101, nat_lit 110, nat_lit 80, nat_lit 105, nat_lit 112, nat_lit 101, nat_lit 69, nat_lit 114, nat_lit 114, nat_lit 111, nat_lit 114]⟩⟩
noncomputable def q143 : Str := ⟨⟨[nat_lit 67, nat_lit 111, nat_lit 110, nat_lit 110, nat_lit 101, nat_lit 99, nat_lit 116, nat_lit 105, nat_lit 111, nat_lit 110, nat_lit 65, nat_lit 98, nat_lit 111, nat_lit 114, nat_lit 116, nat_lit 101, nat_lit 100, nat_lit 69, nat_lit 114, nat_lit 114, nat_lit 111, nat_lit 114]⟩⟩
noncomputable def q144 : Str := ⟨⟨[nat_lit 67, nat_lit 111, nat_lit 110, nat_lit 110, nat_lit 101, nat_lit 99, nat_lit 116, nat_lit 105, nat_lit 111, nat_lit 110, nat_lit 82, nat_lit 101, nat_lit 102, nat_lit 117, nat_lit 115, nat_lit 101, nat_lit 100, nat_lit 69, nat_lit 114, nat_lit 114, nat_lit 111, nat_lit 114]⟩⟩
noncomputable def q145 : Str := ⟨⟨[nat_lit 67, nat_lit 111, nat_lit 110, nat_lit 110, nat_lit 101, nat_lit 99, nat_lit 116, nat_lit 105, nat_lit 111, nat_lit 110, nat_lit 82, nat_lit 101, nat_lit 115, nat_lit 101, nat_lit 116, nat_lit 69, nat_lit 114, nat_lit 114, nat_lit 111, nat_lit 114]⟩⟩
noncomputable def q146 : Str := ⟨⟨[nat_lit 84, nat_lit 97, nat_lit 98, nat_lit 69, nat_lit 114, nat_lit 114, nat_lit 111, nat_lit 114]⟩⟩
noncomputable def q147 : Str := ⟨⟨[nat_lit 85, nat_lit 110, nat_lit 105, nat_lit 99, nat_lit 111, nat_lit 100, nat_lit 101, nat_lit 68, nat_lit 101, nat_lit 99, nat_lit 111, nat_lit 100, nat_lit 101, nat_lit 69, nat_lit 114, nat_lit 114, nat_lit 111, nat_lit 114]⟩⟩
noncomputable def q148 : Str := ⟨⟨[nat_lit 85, nat_lit 110, nat_lit 105, nat_lit 99, nat_lit 111, nat_lit 100, nat_lit 101, nat_lit 69, nat_lit 110, nat_lit 99, nat_lit 111, nat_lit 100, nat_lit 101, nat_lit 69, nat_lit 114, nat_lit 114, nat_lit 111, nat_lit 114]⟩⟩
noncomputable def q149 : Str := ⟨⟨[nat_lit 85, nat_lit 110, nat_lit 105, nat_lit 99, nat_lit 111, nat_lit 100, nat_lit 101, nat_lit 84, nat_lit 114, nat_lit 97, nat_lit 110, nat_lit 115, nat_lit 108, nat_lit 97, nat_lit 116, nat_lit 101, nat_lit 69, nat_lit 114, nat_lit 114, nat_lit 111, nat_lit 114]⟩⟩
noncomputable def q150 : Str := ⟨⟨[nat_lit 69, nat_lit 120, nat_lit 99, nat_lit 101, nat_lit 112, nat_lit 116, nat_lit 105, nat_lit 111, nat_lit 110, nat_lit 71, nat_lit 114, nat_lit 111, nat_lit 117, nat_lit 112]⟩⟩
noncomputable def q151 : Str := ⟨⟨[nat_lit 69, nat_lit 110, nat_lit 118, nat_lit 105, nat_lit 114, nat_lit 111, nat_lit 110, nat_lit 109, nat_lit 101, nat_lit 110, nat_lit 116, nat_lit 69, nat_lit 114, nat_lit 114, nat_lit 111, nat_lit 114]⟩⟩
noncomputable def q152 : Str := ⟨⟨[nat_lit 73, nat_lit 79, nat_lit 69, nat_lit 114, nat_lit 114, nat_lit 111, nat_lit 114]⟩⟩
noncomputable def q153 : Str := ⟨⟨[nat_lit 111, nat_lit 112, nat_lit 101, nat_lit 110]⟩⟩
noncomputable def q154 : Str := ⟨⟨[nat_lit 113, nat_lit 117, nat_lit 105, nat_lit 116]⟩⟩
noncomputable def q155 : Str := ⟨⟨[nat_lit 101, nat_lit 120, nat_lit 105, nat_lit 116]⟩⟩
noncomputable def q156 : Str := ⟨⟨[nat_lit 99, nat_lit 111, nat_lit 112, nat_lit 121, nat_lit 114, nat_lit 105, nat_lit 103, nat_lit 104, nat_lit 116]⟩⟩
noncomputable def q157 : Str := ⟨⟨[nat_lit 99, nat_lit 114, nat_lit 101, nat_lit 100, nat_lit 105, nat_lit 116, nat_lit 115]⟩⟩
noncomputable def q158 : Str := ⟨⟨[nat_lit 108, nat_lit 105, nat_lit 99, nat_lit 101, nat_lit 110, nat_lit 115, nat_lit 101]⟩⟩
noncomputable def q159 : Str := ⟨⟨[nat_lit 104, nat_lit 101, nat_lit 108, nat_lit 112]⟩⟩
noncomputable def q160 : Str := ⟨⟨[nat_lit 116, nat_lit 121, nat_lit 112, nat_lit 101, nat_lit 46, nat_lit 95, nat_lit 95, nat_lit 115, nat_lit 117, nat_lit 98, nat_lit 99, nat_lit 108, nat_lit 97, nat_lit 115, nat_lit 115, nat_lit 101, nat_lit 115, nat_lit 95, nat_lit 95, nat_lit 46, nat_lit 69, nat_lit 120, nat_lit 99, nat_lit 101, nat_lit 112, nat_lit 116, nat_lit 105, nat_lit 111, nat_lit 110, nat_lit 46, nat_lit 48]⟩⟩
noncomputable def q161 : Str := ⟨⟨[nat_lit 116, nat_lit 121, nat_lit 112, nat_lit 101, nat_lit 46, nat_lit 95, nat_lit 95, nat_lit 115, nat_lit 117, nat_lit 98, nat_lit 99, nat_lit 108, nat_lit 97, nat_lit 115, nat_lit 115, nat_lit 101, nat_lit 115, nat_lit 95, nat_lit 95, nat_lit 46, nat_lit 69, nat_lit 120, nat_lit 99, nat_lit 101, nat_lit 112, nat_lit 116, nat_lit 105, nat_lit 111, nat_lit 110, nat_lit 46, nat_lit 110]⟩⟩
noncomputable def q162 : Str := ⟨⟨[nat_lit 108, nat_lit 97, nat_lit 119, nat_lit 95, nat_lit 112, nat_lit 102, nat_lit 48, nat_lit 51, nat_lit 54, nat_lit 57, nat_lit 95, nat_lit 48, nat_lit 49]⟩⟩
noncomputable def q163 : Str := ⟨⟨[nat_lit 95, nat_lit 95, nat_lit 97, nat_lit 110, nat_lit 110, nat_lit 111, nat_lit 116, nat_lit 97, nat_lit 116, nat_lit 105, nat_lit 111, nat_lit 110, nat_lit 115, nat_lit 95, nat_lit 95]⟩⟩
noncomputable def q164 : Str := ⟨⟨[nat_lit 95, nat_lit 95, nat_lit 98, nat_lit 117, nat_lit 105, nat_lit 108, nat_lit 116, nat_lit 105, nat_lit 110, nat_lit 115, nat_lit 95, nat_lit 95]⟩⟩
noncomputable def q165 : Str := ⟨⟨[nat_lit 95, nat_lit 95, nat_lit 102, nat_lit 105, nat_lit 108, nat_lit 101, nat_lit 95, nat_lit 95]⟩⟩
noncomputable def q166 : Str := ⟨⟨[nat_lit 47, nat_lit 99, nat_lit 108, nat_lit 97, nat_lit 105, nat_lit 109, nat_lit 47, nat_lit 99, nat_lit 117, nat_lit 116, nat_lit 46, nat_lit 112, nat_lit 121]⟩⟩
noncomputable def q167 : Str := ⟨⟨[nat_lit 95, nat_lit 95, nat_lit 99, nat_lit 97, nat_lit 99, nat_lit 104, nat_lit 101, nat_lit 100, nat_lit 95, nat_lit 95]⟩⟩
noncomputable def q168 : Str := ⟨⟨[nat_lit 83, nat_lit 110, nat_lit 111, nat_lit 98, nat_lit 111, nat_lit 108, nat_lit 69, nat_lit 114, nat_lit 114, nat_lit 111, nat_lit 114]⟩⟩
noncomputable def q169 : Str := ⟨⟨[nat_lit 80, nat_lit 97, nat_lit 116, nat_lit 116, nat_lit 101, nat_lit 114, nat_lit 110]⟩⟩
noncomputable def q170 : Str := ⟨⟨[nat_lit 68, nat_lit 101, nat_lit 108, nat_lit 97, nat_lit 121, nat_lit 101, nat_lit 100]⟩⟩
noncomputable def q171 : Str := ⟨⟨[nat_lit 67, nat_lit 111, nat_lit 100, nat_lit 101]⟩⟩
noncomputable def q172 : Str := ⟨⟨[nat_lit 78, nat_lit 97, nat_lit 109, nat_lit 101, nat_lit 82, nat_lit 101, nat_lit 102]⟩⟩
noncomputable def q173 : Str := ⟨⟨[nat_lit 72, nat_lit 111, nat_lit 108, nat_lit 100, nat_lit 101, nat_lit 114]⟩⟩
noncomputable def q174 : Str := ⟨⟨[nat_lit 107, nat_lit 105, nat_lit 110, nat_lit 100, nat_lit 95, nat_lit 111, nat_lit 102]⟩⟩
noncomputable def q175 : Str := ⟨⟨[nat_lit 102, nat_lit 105, nat_lit 116, nat_lit 115]⟩⟩
noncomputable def q176 : Str := ⟨⟨[nat_lit 119, nat_lit 104, nat_lit 111, nat_lit 108, nat_lit 101, nat_lit 95, nat_lit 111, nat_lit 102, nat_lit 95, nat_lit 116, nat_lit 101, nat_lit 120, nat_lit 116]⟩⟩
noncomputable def q177 : Str := ⟨⟨[nat_lit 116, nat_lit 101, nat_lit 120, nat_lit 116, nat_lit 95, nat_lit 111, nat_lit 102, nat_lit 95, nat_lit 119, nat_lit 104, nat_lit 111, nat_lit 108, nat_lit 101]⟩⟩
noncomputable def q178 : Str := ⟨⟨[nat_lit 116, nat_lit 111, nat_lit 95, nat_lit 119, nat_lit 104, nat_lit 111, nat_lit 108, nat_lit 101]⟩⟩
noncomputable def q179 : Str := ⟨⟨[nat_lit 116, nat_lit 111, nat_lit 95, nat_lit 116, nat_lit 101, nat_lit 120, nat_lit 116]⟩⟩
noncomputable def q180 : Str := ⟨⟨[nat_lit 110, nat_lit 101, nat_lit 101, nat_lit 100, nat_lit 95, nat_lit 119, nat_lit 104, nat_lit 111, nat_lit 108, nat_lit 101]⟩⟩
noncomputable def q181 : Str := ⟨⟨[nat_lit 110, nat_lit 101, nat_lit 101, nat_lit 100, nat_lit 95, nat_lit 116, nat_lit 101, nat_lit 120, nat_lit 116]⟩⟩
noncomputable def q182 : Str := ⟨⟨[nat_lit 65, nat_lit 114, nat_lit 114, nat_lit 97, nat_lit 121]⟩⟩
noncomputable def q183 : Str := ⟨⟨[nat_lit 119, nat_lit 104, nat_lit 111, nat_lit 108, nat_lit 101, nat_lit 95, nat_lit 105, nat_lit 110]⟩⟩
noncomputable def q184 : Str := ⟨⟨[nat_lit 114, nat_lit 101, nat_lit 97, nat_lit 100, nat_lit 95, nat_lit 98, nat_lit 111, nat_lit 117, nat_lit 110, nat_lit 100, nat_lit 115]⟩⟩
noncomputable def q185 : Str := ⟨⟨[nat_lit 115, nat_lit 105, nat_lit 122, nat_lit 101, nat_lit 95, nat_lit 111, nat_lit 102, nat_lit 95, nat_lit 98, nat_lit 111, nat_lit 117, nat_lit 110, nat_lit 100, nat_lit 115]⟩⟩
noncomputable def q186 : Str := ⟨⟨[nat_lit 87, nat_lit 111, nat_lit 114, nat_lit 108, nat_lit 100]⟩⟩
noncomputable def q187 : Str := ⟨⟨[nat_lit 110, nat_lit 101, nat_lit 120, nat_lit 116, nat_lit 95, nat_lit 110, nat_lit 117, nat_lit 109, nat_lit 98, nat_lit 101, nat_lit 114]⟩⟩
noncomputable def q188 : Str := ⟨⟨[nat_lit 112, nat_lit 108, nat_lit 97, nat_lit 105, nat_lit 110, nat_lit 95, nat_lit 118, nat_lit 97, nat_lit 114]⟩⟩
noncomputable def q189 : Str := ⟨⟨[nat_lit 107, nat_lit 110, nat_lit 111, nat_lit 119, nat_lit 110, nat_lit 95, nat_lit 110, nat_lit 97, nat_lit 109, nat_lit 101, nat_lit 115]⟩⟩
noncomputable def q190 : Str := ⟨⟨[nat_lit 84, nat_lit 79, nat_lit 79, nat_lit 95, nat_lit 71, nat_lit 82, nat_lit 69, nat_lit 65, nat_lit 84]⟩⟩
noncomputable def q191 : Str := ⟨⟨[nat_lit 104, nat_lit 101, nat_lit 108, nat_lit 100]⟩⟩
noncomputable def q192 : Str := ⟨⟨[nat_lit 109, nat_lit 97, nat_lit 100, nat_lit 101, nat_lit 95, nat_lit 97, nat_lit 114, nat_lit 114, nat_lit 97, nat_lit 121]⟩⟩
noncomputable def q193 : Str := ⟨⟨[nat_lit 97, nat_lit 114, nat_lit 114, nat_lit 97, nat_lit 121, nat_lit 95, nat_lit 119, nat_lit 111, nat_lit 114, nat_lit 107]⟩⟩
noncomputable def q194 : Str := ⟨⟨[nat_lit 115, nat_lit 104, nat_lit 111, nat_lit 119, nat_lit 110, nat_lit 95, nat_lit 118, nat_lit 97, nat_lit 108, nat_lit 117, nat_lit 101]⟩⟩
noncomputable def q195 : Str := ⟨⟨[nat_lit 100, nat_lit 117, nat_lit 109, nat_lit 112, nat_lit 95, nat_lit 114, nat_lit 111, nat_lit 119, nat_lit 115]⟩⟩
noncomputable def q196 : Str := ⟨⟨[nat_lit 100, nat_lit 117, nat_lit 109, nat_lit 112]⟩⟩
noncomputable def q197 : Str := ⟨⟨[nat_lit 95, nat_lit 108, nat_lit 97, nat_lit 119, nat_lit 95, nat_lit 110, nat_lit 101, nat_lit 120, nat_lit 116]⟩⟩
noncomputable def q198 : Str := ⟨⟨[nat_lit 95, nat_lit 108, nat_lit 97, nat_lit 119, nat_lit 95, nat_lit 116, nat_lit 111, nat_lit 108, nat_lit 100]⟩⟩
noncomputable def q199 : Str := ⟨⟨[nat_lit 95, nat_lit 108, nat_lit 97, nat_lit 119, nat_lit 95, nat_lit 112, nat_lit 114, nat_lit 111, nat_lit 116, nat_lit 111, nat_lit 116, nat_lit 121, nat_lit 112, nat_lit 101]⟩⟩
noncomputable def q200 : Str := ⟨⟨[nat_lit 95, nat_lit 108, nat_lit 97, nat_lit 119, nat_lit 95, nat_lit 104, nat_lit 101, nat_lit 97, nat_lit 114, nat_lit 100]⟩⟩
noncomputable def q201 : Str := ⟨⟨[nat_lit 108, nat_lit 97, nat_lit 119]⟩⟩
noncomputable def q202 : Str := ⟨⟨[]⟩⟩
noncomputable def q203 : Str := ⟨⟨[nat_lit 95, nat_lit 95, nat_lit 105, nat_lit 110, nat_lit 105, nat_lit 116, nat_lit 95, nat_lit 95]⟩⟩
noncomputable def q204 : Str := ⟨⟨[nat_lit 83, nat_lit 110, nat_lit 111, nat_lit 98, nat_lit 111, nat_lit 108, nat_lit 69, nat_lit 114, nat_lit 114, nat_lit 111, nat_lit 114, nat_lit 46, nat_lit 95, nat_lit 95, nat_lit 105, nat_lit 110, nat_lit 105, nat_lit 116, nat_lit 95, nat_lit 95]⟩⟩
noncomputable def q205 : Str := ⟨⟨[nat_lit 95, nat_lit 95, nat_lit 99, nat_lit 108, nat_lit 97, nat_lit 115, nat_lit 115, nat_lit 95, nat_lit 95]⟩⟩
noncomputable def q206 : Str := ⟨⟨[nat_lit 115, nat_lit 110, nat_lit 111, nat_lit 98, nat_lit 111, nat_lit 108, nat_lit 46, nat_lit 118, nat_lit 97, nat_lit 108, nat_lit 117, nat_lit 101, nat_lit 115]⟩⟩
noncomputable def q207 : Str := ⟨⟨[nat_lit 95, nat_lit 95, nat_lit 109, nat_lit 111, nat_lit 100, nat_lit 117, nat_lit 108, nat_lit 101, nat_lit 95, nat_lit 95]⟩⟩
noncomputable def q208 : Str := ⟨⟨[nat_lit 95, nat_lit 95, nat_lit 102, nat_lit 105, nat_lit 114, nat_lit 115, nat_lit 116, nat_lit 108, nat_lit 105, nat_lit 110, nat_lit 101, nat_lit 110, nat_lit 111, nat_lit 95, nat_lit 95]⟩⟩
noncomputable def q209 : Str := ⟨⟨[nat_lit 95, nat_lit 95, nat_lit 115, nat_lit 116, nat_lit 97, nat_lit 116, nat_lit 105, nat_lit 99, nat_lit 95, nat_lit 97, nat_lit 116, nat_lit 116, nat_lit 114, nat_lit 105, nat_lit 98, nat_lit 117, nat_lit 116, nat_lit 101, nat_lit 115, nat_lit 95, nat_lit 95]⟩⟩
noncomputable def q210 : Str := ⟨⟨[nat_lit 95, nat_lit 95, nat_lit 119, nat_lit 101, nat_lit 97, nat_lit 107, nat_lit 114, nat_lit 101, nat_lit 102, nat_lit 95, nat_lit 95]⟩⟩
noncomputable def q211 : Str := ⟨⟨[nat_lit 80, nat_lit 97, nat_lit 116, nat_lit 116, nat_lit 101, nat_lit 114, nat_lit 110, nat_lit 46, nat_lit 95, nat_lit 95, nat_lit 105, nat_lit 110, nat_lit 105, nat_lit 116, nat_lit 95, nat_lit 95]⟩⟩
noncomputable def q212 : Str := ⟨⟨[nat_lit 95, nat_lit 95, nat_lit 100, nat_lit 105, nat_lit 99, nat_lit 116, nat_lit 95, nat_lit 95]⟩⟩
noncomputable def q213 : Str := ⟨⟨[nat_lit 72, nat_lit 111, nat_lit 108, nat_lit 100, nat_lit 101, nat_lit 114, nat_lit 46, nat_lit 95, nat_lit 95, nat_lit 105, nat_lit 110, nat_lit 105, nat_lit 116, nat_lit 95, nat_lit 95]⟩⟩
noncomputable def q214 : Str := ⟨⟨[nat_lit 65, nat_lit 114, nat_lit 114, nat_lit 97, nat_lit 121, nat_lit 46, nat_lit 95, nat_lit 95, nat_lit 105, nat_lit 110, nat_lit 105, nat_lit 116, nat_lit 95, nat_lit 95]⟩⟩
noncomputable def q215 : Str := ⟨⟨[nat_lit 115, nat_lit 110, nat_lit 111, nat_lit 98, nat_lit 111, nat_lit 108, nat_lit 46, nat_lit 97, nat_lit 103, nat_lit 103, nat_lit 114, nat_lit 101, nat_lit 103, nat_lit 97, nat_lit 116, nat_lit 101, nat_lit 115]⟩⟩
noncomputable def q216 : Str := ⟨⟨[nat_lit 87, nat_lit 111, nat_lit 114, nat_lit 108, nat_lit 100, nat_lit 46, nat_lit 95, nat_lit 95, nat_lit 105, nat_lit 110, nat_lit 105, nat_lit 116, nat_lit 95, nat_lit 95]⟩⟩
noncomputable def q217 : Str := ⟨⟨[nat_lit 115, nat_lit 110, nat_lit 111, nat_lit 98, nat_lit 111, nat_lit 108, nat_lit 46, nat_lit 119, nat_lit 111, nat_lit 114, nat_lit 108, nat_lit 100]⟩⟩
noncomputable def q218 : Str := ⟨⟨[nat_lit 115, nat_lit 110, nat_lit 111, nat_lit 98, nat_lit 111, nat_lit 108, nat_lit 46, nat_lit 104, nat_lit 101, nat_lit 97, nat_lit 112]⟩⟩
noncomputable def q219 : Str := ⟨⟨[nat_lit 115, nat_lit 110, nat_lit 111, nat_lit 98, nat_lit 111, nat_lit 108, nat_lit 46, nat_lit 97, nat_lit 103, nat_lit 103, nat_lit 114, nat_lit 101, nat_lit 103, nat_lit 97, nat_lit 116, nat_lit 101, nat_lit 108, nat_lit 105, nat_lit 98]⟩⟩
noncomputable def q220 : Str := ⟨⟨[nat_lit 115, nat_lit 110, nat_lit 111, nat_lit 98, nat_lit 111, nat_lit 108, nat_lit 46, nat_lit 97, nat_lit 115, nat_lit 115, nat_lit 111, nat_lit 99, nat_lit 105, nat_lit 97, nat_lit 116, nat_lit 105, nat_lit 111, nat_lit 110, nat_lit 115]⟩⟩
noncomputable def k0 (P : Params) : Obj := ⟨(.type PySem.W.SL.s14018661285674007319x4), .none, (.dict ⟨[⟨(PySem.PyData.keyHash P q0), (.str q0 (nat_lit 1)), (.str q1 (nat_lit 160))⟩, ⟨(PySem.PyData.keyHash P q2), (.str q2 (nat_lit 2)), (.builtin "builtins.__doc__:str#opaque")⟩, ⟨(PySem.PyData.keyHash P q3), (.str q3 (nat_lit 3)), (.builtin "builtins.__package__:str#opaque")⟩, ⟨(PySem.PyData.keyHash P q4), (.str q4 (nat_lit 4)), (.builtin "builtins.__loader__:shared#opaque")⟩, ⟨(PySem.PyData.keyHash P q5), (.str q5 (nat_lit 5)), (.builtin PySem.W.SL.s11665532747177232413x24)⟩, ⟨(PySem.PyData.keyHash P q6), (.str q6 (nat_lit 6)), (.builtin PySem.W.SL.s15183661809925369436x15)⟩, ⟨(PySem.PyData.keyHash P q7), (.str q7 (nat_lit 7)), (.builtin PySem.W.SL.s13915890719876406383x10)⟩, ⟨(PySem.PyData.keyHash P q8), (.str q8 (nat_lit 8)), (.builtin PySem.W.SL.s13459172003223722735x3)⟩, ⟨(PySem.PyData.keyHash P q9), (.str q9 (nat_lit 9)), (.builtin PySem.W.SL.s10557405761357834076x3)⟩, ⟨(PySem.PyData.keyHash P q10), (.str q10 (nat_lit 10)), (.builtin PySem.W.SL.s4233737765568776869x3)⟩, ⟨(PySem.PyData.keyHash P q11), (.str q11 (nat_lit 11)), (.builtin PySem.W.SL.s2508922471967985374x5)⟩, ⟨(PySem.PyData.keyHash P q12), (.str q12 (nat_lit 12)), (.builtin PySem.W.SL.s15574269061696679450x3)⟩, ⟨(PySem.PyData.keyHash P q13), (.str q13 (nat_lit 13)), (.builtin PySem.W.SL.s6016482663378992977x10)⟩, ⟨(PySem.PyData.keyHash P q14), (.str q14 (nat_lit 14)), (.builtin PySem.W.SL.s5596568736180474577x8)⟩, ⟨(PySem.PyData.keyHash P q15), (.str q15 (nat_lit 15)), (.builtin PySem.W.SL.s2839554839881490554x3)⟩, ⟨(PySem.PyData.keyHash P q16), (.str q16 (nat_lit 16)), (.builtin PySem.W.SL.s725004073602090463x7)⟩, ⟨(PySem.PyData.keyHash P q17), (.str q17 (nat_lit 17)), (.builtin PySem.W.SL.s9436932552931045734x7)⟩, ⟨(PySem.PyData.keyHash P q18), (.str q18 (nat_lit 18)), (.builtin PySem.W.SL.s2754603736356183583x3)⟩, ⟨(PySem.PyData.keyHash P q19), (.str q19 (nat_lit 19)), (.builtin PySem.W.SL.s15185746759980889043x6)⟩, ⟨(PySem.PyData.keyHash P q20), (.str q20 (nat_lit 20)), (.builtin PySem.W.SL.s8192189862530294059x4)⟩, ⟨(PySem.PyData.keyHash P q21), (.str q21 (nat_lit 21)), (.builtin PySem.W.SL.s7038307821325472102x4)⟩, ⟨(PySem.PyData.keyHash P q22), (.str q22 (nat_lit 22)), (.builtin PySem.W.SL.s5662562618415449548x6)⟩, ⟨(PySem.PyData.keyHash P q23), (.str q23 (nat_lit 23)), (.builtin PySem.W.SL.s15281542589158584767x7)⟩, ⟨(PySem.PyData.keyHash P q24), (.str q24 (nat_lit 24)), (.builtin PySem.W.SL.s17651547275483570877x7)⟩, ⟨(PySem.PyData.keyHash P q25), (.str q25 (nat_lit 25)), (.builtin PySem.W.SL.s4036449017235975746x7)⟩, ⟨(PySem.PyData.keyHash P q26), (.str q26 (nat_lit 26)), (.builtin PySem.W.SL.s8879979712987360175x4)⟩, ⟨(PySem.PyData.keyHash P q27), (.str q27 (nat_lit 27)), (.builtin PySem.W.SL.s1801250619170735830x3)⟩, ⟨(PySem.PyData.keyHash P q28), (.str q28 (nat_lit 28)), (.builtin PySem.W.SL.s17659931425627118568x2)⟩, ⟨(PySem.PyData.keyHash P q29), (.str q29 (nat_lit 29)), (.builtin PySem.W.SL.s6063217899685152688x5)⟩, ⟨(PySem.PyData.keyHash P q30), (.str q30 (nat_lit 30)), (.builtin PySem.W.SL.s8008927332132565319x10)⟩, ⟨(PySem.PyData.keyHash P q31), (.str q31 (nat_lit 31)), (.builtin PySem.W.SL.s3544116645089599534x10)⟩, ⟨(PySem.PyData.keyHash P q32), (.str q32 (nat_lit 32)), (.builtin PySem.W.SL.s13761710972054866084x4)⟩, ⟨(PySem.PyData.keyHash P q33), (.str q33 (nat_lit 33)), (.builtin PySem.W.SL.s12896375587409280029x5)⟩, ⟨(PySem.PyData.keyHash P q34), (.str q34 (nat_lit 34)), (.builtin PySem.W.SL.s13014049009108672802x3)⟩, ⟨(PySem.PyData.keyHash P q35), (.str q35 (nat_lit 35)), (.builtin PySem.W.SL.s13935586738268321596x6)⟩, ⟨(PySem.PyData.keyHash P q36), (.str q36 (nat_lit 36)), (.builtin PySem.W.SL.s8200498257699607233x3)⟩, ⟨(PySem.PyData.keyHash P q37), (.str q37 (nat_lit 37)), (.builtin PySem.W.SL.s14114244577727609259x3)⟩, ⟨(PySem.PyData.keyHash P q38), (.str q38 (nat_lit 38)), (.builtin PySem.W.SL.s1499430450269397089x4)⟩, ⟨(PySem.PyData.keyHash P q39), (.str q39 (nat_lit 39)), (.builtin PySem.W.SL.s8755793994789770505x5)⟩, ⟨(PySem.PyData.keyHash P q40), (.str q40 (nat_lit 40)), (.builtin PySem.W.SL.s15725212667919936108x3)⟩, ⟨(PySem.PyData.keyHash P q41), (.str q41 (nat_lit 41)), (.builtin PySem.W.SL.s15791221867095933363x3)⟩, ⟨(PySem.PyData.keyHash P q42), (.str q42 (nat_lit 42)), (.builtin PySem.W.SL.s81309575031448614x3)⟩, ⟨(PySem.PyData.keyHash P q43), (.str q43 (nat_lit 43)), (.builtin PySem.W.SL.s8069831620301644142x5)⟩, ⟨(PySem.PyData.keyHash P q44), (.str q44 (nat_lit 44)), (.builtin PySem.W.SL.s10061844253413749634x4)⟩, ⟨(PySem.PyData.keyHash P q45), (.str q45 (nat_lit 45)), (.builtin PySem.W.SL.s9496514870978017513x5)⟩, ⟨(PySem.PyData.keyHash P q46), (.str q46 (nat_lit 46)), (.builtin PySem.W.SL.s8899691144933366716x7)⟩, ⟨(PySem.PyData.keyHash P q47), (.str q47 (nat_lit 47)), (.builtin PySem.W.SL.s15201008993051130160x6)⟩, ⟨(PySem.PyData.keyHash P q48), (.str q48 (nat_lit 48)), (.builtin PySem.W.SL.s741896355592496720x3)⟩, ⟨(PySem.PyData.keyHash P q49), (.str q49 (nat_lit 49)), (.builtin PySem.W.SL.s17925004256654032244x4)⟩, ⟨(PySem.PyData.keyHash P q50), (.str q50 (nat_lit 50)), .none⟩, ⟨(PySem.PyData.keyHash P q51), (.str q51 (nat_lit 51)), .ellipsis⟩, ⟨(PySem.PyData.keyHash P q52), (.str q52 (nat_lit 52)), .notImplemented⟩, ⟨(PySem.PyData.keyHash P q53), (.str q53 (nat_lit 53)), (.bool false)⟩, ⟨(PySem.PyData.keyHash P q54), (.str q54 (nat_lit 54)), (.bool true)⟩, ⟨(PySem.PyData.keyHash P q55), (.str q55 (nat_lit 55)), (.type PySem.W.SL.s11695548795398191787x4)⟩, ⟨(PySem.PyData.keyHash P q56), (.str q56 (nat_lit 56)), (.type PySem.W.SL.s4156966113859768872x10)⟩, ⟨(PySem.PyData.keyHash P q57), (.str q57 (nat_lit 57)), (.type PySem.W.SL.s9501651726347032510x9)⟩, ⟨(PySem.PyData.keyHash P q58), (.str q58 (nat_lit 58)), (.type PySem.W.SL.s15722918466584999320x5)⟩, ⟨(PySem.PyData.keyHash P q59), (.str q59 (nat_lit 59)), (.type PySem.W.SL.s591115383303110208x11)⟩, ⟨(PySem.PyData.keyHash P q60), (.str q60 (nat_lit 60)), (.type PySem.W.SL.s15721156781594690315x7)⟩, ⟨(PySem.PyData.keyHash P q61), (.str q61 (nat_lit 61)), (.type PySem.W.SL.s14018661285674007319x4)⟩, ⟨(PySem.PyData.keyHash P q62), (.str q62 (nat_lit 62)), (.type PySem.W.SL.s14340494229221121180x9)⟩, ⟨(PySem.PyData.keyHash P q63), (.str q63 (nat_lit 63)), (.type PySem.W.SL.s13429844117177748173x6)⟩, ⟨(PySem.PyData.keyHash P q64), (.str q64 (nat_lit 64)), (.type PySem.W.SL.s16463266125957815391x5)⟩, ⟨(PySem.PyData.keyHash P q65), (.str q65 (nat_lit 65)), (.type PySem.W.SL.s4922535414793169389x9)⟩, ⟨(PySem.PyData.keyHash P q66), (.str q66 (nat_lit 66)), (.type PySem.W.SL.s8101838861749082086x8)⟩, ⟨(PySem.PyData.keyHash P q67), (.str q67 (nat_lit 67)), (.type PySem.W.SL.s7066276694103001551x3)⟩, ⟨(PySem.PyData.keyHash P q68), (.str q68 (nat_lit 68)), (.type PySem.W.SL.s9222952809800978799x4)⟩, ⟨(PySem.PyData.keyHash P q69), (.str q69 (nat_lit 69)), (.type PySem.W.SL.s462964344163437139x3)⟩, ⟨(PySem.PyData.keyHash P q70), (.str q70 (nat_lit 70)), (.type PySem.W.SL.s2742458400755230247x6)⟩, ⟨(PySem.PyData.keyHash P q71), (.str q71 (nat_lit 71)), (.type PySem.W.SL.s1438033511350832697x5)⟩, ⟨(PySem.PyData.keyHash P q72), (.str q72 (nat_lit 72)), (.type PySem.W.SL.s14365286008749172514x8)⟩, ⟨(PySem.PyData.keyHash P q73), (.str q73 (nat_lit 73)), (.type PySem.W.SL.s3642769012341782148x3)⟩, ⟨(PySem.PyData.keyHash P q74), (.str q74 (nat_lit 74)), (.type PySem.W.SL.s4674234679698826739x5)⟩, ⟨(PySem.PyData.keyHash P q75), (.str q75 (nat_lit 75)), (.type PySem.W.SL.s16656946322747308186x12)⟩, ⟨(PySem.PyData.keyHash P q76), (.str q76 (nat_lit 76)), (.type PySem.W.SL.s10796804682411823810x3)⟩, ⟨(PySem.PyData.keyHash P q77), (.str q77 (nat_lit 77)), (.type PySem.W.SL.s4290257624100764138x5)⟩, ⟨(PySem.PyData.keyHash P q78), (.str q78 (nat_lit 78)), (.type PySem.W.SL.s2766695959194262286x5)⟩, ⟨(PySem.PyData.keyHash P q79), (.str q79 (nat_lit 79)), (.type PySem.W.SL.s17162191345867700912x4)⟩, ⟨(PySem.PyData.keyHash P q80), (.str q80 (nat_lit 80)), (.type PySem.W.SL.s14339709457334898076x3)⟩, ⟨(PySem.PyData.keyHash P q81), (.str q81 (nat_lit 81)), (.bool true)⟩, ⟨(PySem.PyData.keyHash P q82), (.str q82 (nat_lit 82)), (.type PySem.W.SL.s4278001404047624695x13)⟩, ⟨(PySem.PyData.keyHash P q83), (.str q83 (nat_lit 83)), (.type PySem.W.SL.s6585700554429387442x18)⟩, ⟨(PySem.PyData.keyHash P q84), (.str q84 (nat_lit 84)), (.type PySem.W.SL.s5946037652744460706x9)⟩, ⟨(PySem.PyData.keyHash P q85), (.str q85 (nat_lit 85)), (.type PySem.W.SL.s7410770068591931388x13)⟩, ⟨(PySem.PyData.keyHash P q86), (.str q86 (nat_lit 86)), (.type PySem.W.SL.s11817881795495490833x17)⟩, ⟨(PySem.PyData.keyHash P q87), (.str q87 (nat_lit 87)), (.type PySem.W.SL.s15679963881808890155x10)⟩, ⟨(PySem.PyData.keyHash P q88), (.str q88 (nat_lit 88)), (.type PySem.W.SL.s3871700062485845797x15)⟩, ⟨(PySem.PyData.keyHash P q89), (.str q89 (nat_lit 89)), (.type PySem.W.SL.s7689518266570723881x14)⟩, ⟨(PySem.PyData.keyHash P q90), (.str q90 (nat_lit 90)), (.type PySem.W.SL.s9001593270443806431x14)⟩, ⟨(PySem.PyData.keyHash P q91), (.str q91 (nat_lit 91)), (.type PySem.W.SL.s6882542574934516792x11)⟩, ⟨(PySem.PyData.keyHash P q92), (.str q92 (nat_lit 92)), (.type PySem.W.SL.s14403400214490484960x8)⟩, ⟨(PySem.PyData.keyHash P q93), (.str q93 (nat_lit 93)), (.type PySem.W.SL.s14457978657717015782x11)⟩, ⟨(PySem.PyData.keyHash P q94), (.str q94 (nat_lit 94)), (.type PySem.W.SL.s1753610191782819921x11)⟩, ⟨(PySem.PyData.keyHash P q95), (.str q95 (nat_lit 95)), (.type PySem.W.SL.s14119380538032626715x11)⟩, ⟨(PySem.PyData.keyHash P q96), (.str q96 (nat_lit 96)), (.type PySem.W.SL.s11437920000406562045x9)⟩, ⟨(PySem.PyData.keyHash P q97), (.str q97 (nat_lit 97)), (.type PySem.W.SL.s10852414792293593619x7)⟩, ⟨(PySem.PyData.keyHash P q98), (.str q98 (nat_lit 98)), (.type PySem.W.SL.s14816307405966870543x14)⟩, ⟨(PySem.PyData.keyHash P q99), (.str q99 (nat_lit 99)), (.type PySem.W.SL.s8682627914449686677x12)⟩, ⟨(PySem.PyData.keyHash P q100), (.str q100 (nat_lit 100)), (.type PySem.W.SL.s4428170145600203450x18)⟩, ⟨(PySem.PyData.keyHash P q101), (.str q101 (nat_lit 101)), (.type PySem.W.SL.s5991306692159431302x13)⟩, ⟨(PySem.PyData.keyHash P q102), (.str q102 (nat_lit 102)), (.type PySem.W.SL.s16067994140765818257x11)⟩, ⟨(PySem.PyData.keyHash P q103), (.str q103 (nat_lit 103)), (.type PySem.W.SL.s2327743974964600596x11)⟩, ⟨(PySem.PyData.keyHash P q104), (.str q104 (nat_lit 104)), (.type PySem.W.SL.s2804747833354056582x9)⟩, ⟨(PySem.PyData.keyHash P q105), (.str q105 (nat_lit 105)), (.type PySem.W.SL.s6070975301684473832x10)⟩, ⟨(PySem.PyData.keyHash P q106), (.str q106 (nat_lit 106)), (.type PySem.W.SL.s14270485950484850486x7)⟩, ⟨(PySem.PyData.keyHash P q107), (.str q107 (nat_lit 107)), (.type PySem.W.SL.s12041534306414923332x18)⟩, ⟨(PySem.PyData.keyHash P q108), (.str q108 (nat_lit 108)), (.type PySem.W.SL.s2531307568338490285x13)⟩, ⟨(PySem.PyData.keyHash P q109), (.str q109 (nat_lit 109)), (.type PySem.W.SL.s631175304937289666x17)⟩, ⟨(PySem.PyData.keyHash P q110), (.str q110 (nat_lit 110)), (.type PySem.W.SL.s5144983644357021410x12)⟩, ⟨(PySem.PyData.keyHash P q111), (.str q111 (nat_lit 111)), (.type PySem.W.SL.s18039099521571816885x18)⟩, ⟨(PySem.PyData.keyHash P q112), (.str q112 (nat_lit 112)), (.type PySem.W.SL.s6011586214260557989x15)⟩, ⟨(PySem.PyData.keyHash P q113), (.str q113 (nat_lit 113)), (.type PySem.W.SL.s5430567037509283100x13)⟩, ⟨(PySem.PyData.keyHash P q114), (.str q114 (nat_lit 114)), (.type PySem.W.SL.s8117915138073963741x13)⟩, ⟨(PySem.PyData.keyHash P q115), (.str q115 (nat_lit 115)), (.type PySem.W.SL.s3423317712779056401x25)⟩, ⟨(PySem.PyData.keyHash P q116), (.str q116 (nat_lit 116)), (.type PySem.W.SL.s2007317383269046180x15)⟩, ⟨(PySem.PyData.keyHash P q117), (.str q117 (nat_lit 117)), (.type PySem.W.SL.s17481586968713580700x14)⟩, ⟨(PySem.PyData.keyHash P q118), (.str q118 (nat_lit 118)), (.type PySem.W.SL.s2450899226349176912x13)⟩, ⟨(PySem.PyData.keyHash P q119), (.str q119 (nat_lit 119)), (.type PySem.W.SL.s16626165730633575011x14)⟩, ⟨(PySem.PyData.keyHash P q120), (.str q120 (nat_lit 120)), (.type PySem.W.SL.s14288496050688921416x11)⟩, ⟨(PySem.PyData.keyHash P q121), (.str q121 (nat_lit 121)), (.type PySem.W.SL.s5735081916595925998x15)⟩, ⟨(PySem.PyData.keyHash P q122), (.str q122 (nat_lit 122)), (.type PySem.W.SL.s3865607918536308442x17)⟩, ⟨(PySem.PyData.keyHash P q123), (.str q123 (nat_lit 123)), (.type PySem.W.SL.s13337502604062700212x15)⟩, ⟨(PySem.PyData.keyHash P q124), (.str q124 (nat_lit 124)), (.type PySem.W.SL.s13114017843053701147x15)⟩, ⟨(PySem.PyData.keyHash P q125), (.str q125 (nat_lit 125)), (.type PySem.W.SL.s17467278006356818441x17)⟩, ⟨(PySem.PyData.keyHash P q126), (.str q126 (nat_lit 126)), (.type PySem.W.SL.s17722149559621369488x16)⟩, ⟨(PySem.PyData.keyHash P q127), (.str q127 (nat_lit 127)), (.type PySem.W.SL.s7855274175708717672x17)⟩, ⟨(PySem.PyData.keyHash P q128), (.str q128 (nat_lit 128)), (.type PySem.W.SL.s13351283678309829046x18)⟩, ⟨(PySem.PyData.keyHash P q129), (.str q129 (nat_lit 129)), (.type PySem.W.SL.s6668348653404991179x15)⟩, ⟨(PySem.PyData.keyHash P q130), (.str q130 (nat_lit 130)), (.type PySem.W.SL.s12913350958174193794x18)⟩, ⟨(PySem.PyData.keyHash P q131), (.str q131 (nat_lit 131)), (.type PySem.W.SL.s16115879512475548326x12)⟩, ⟨(PySem.PyData.keyHash P q132), (.str q132 (nat_lit 132)), (.type PySem.W.SL.s15920661018069861047x16)⟩, ⟨(PySem.PyData.keyHash P q133), (.str q133 (nat_lit 133)), (.type PySem.W.SL.s10779130036587390575x21)⟩, ⟨(PySem.PyData.keyHash P q134), (.str q134 (nat_lit 134)), (.type PySem.W.SL.s7801419657504700863x10)⟩, ⟨(PySem.PyData.keyHash P q135), (.str q135 (nat_lit 135)), (.type PySem.W.SL.s1688129525768580628x8)⟩, ⟨(PySem.PyData.keyHash P q136), (.str q136 (nat_lit 136)), (.type PySem.W.SL.s1031832959479892071x19)⟩, ⟨(PySem.PyData.keyHash P q137), (.str q137 (nat_lit 137)), (.type PySem.W.SL.s8991790508128307865x19)⟩, ⟨(PySem.PyData.keyHash P q138), (.str q138 (nat_lit 138)), (.type PySem.W.SL.s14539662485746970245x23)⟩, ⟨(PySem.PyData.keyHash P q139), (.str q139 (nat_lit 139)), (.type PySem.W.SL.s11643622729373238714x14)⟩, ⟨(PySem.PyData.keyHash P q140), (.str q140 (nat_lit 140)), (.type PySem.W.SL.s3386828779285465597x17)⟩, ⟨(PySem.PyData.keyHash P q141), (.str q141 (nat_lit 141)), (.type PySem.W.SL.s13042696260734638735x12)⟩, ⟨(PySem.PyData.keyHash P q142), (.str q142 (nat_lit 142)), (.type PySem.W.SL.s18239426817015966623x15)⟩, ⟨(PySem.PyData.keyHash P q143), (.str q143 (nat_lit 143)), (.type PySem.W.SL.s1270395311379034370x22)⟩, ⟨(PySem.PyData.keyHash P q144), (.str q144 (nat_lit 144)), (.type PySem.W.SL.s10696252587037064777x22)⟩, ⟨(PySem.PyData.keyHash P q145), (.str q145 (nat_lit 145)), (.type PySem.W.SL.s7852717498200857586x20)⟩, ⟨(PySem.PyData.keyHash P q146), (.str q146 (nat_lit 146)), (.type PySem.W.SL.s6377248116197321094x8)⟩, ⟨(PySem.PyData.keyHash P q147), (.str q147 (nat_lit 147)), (.type PySem.W.SL.s3834378056692298002x18)⟩, ⟨(PySem.PyData.keyHash P q148), (.str q148 (nat_lit 148)), (.type PySem.W.SL.s17586630440231065808x18)⟩, ⟨(PySem.PyData.keyHash P q149), (.str q149 (nat_lit 149)), (.type PySem.W.SL.s15234114252648025395x21)⟩, ⟨(PySem.PyData.keyHash P q150), (.str q150 (nat_lit 150)), (.type PySem.W.SL.s8496462677383758984x14)⟩, ⟨(PySem.PyData.keyHash P q151), (.str q151 (nat_lit 151)), (.type PySem.W.SL.s10852414792293593619x7)⟩, ⟨(PySem.PyData.keyHash P q152), (.str q152 (nat_lit 152)), (.type PySem.W.SL.s10852414792293593619x7)⟩, ⟨(PySem.PyData.keyHash P q153), (.str q153 (nat_lit 153)), (.builtin PySem.W.SL.s16789243406116112673x4)⟩, ⟨(PySem.PyData.keyHash P q154), (.str q154 (nat_lit 154)), (.builtin PySem.W.SL.s14400166428656793546x20)⟩, ⟨(PySem.PyData.keyHash P q155), (.str q155 (nat_lit 155)), (.builtin PySem.W.SL.s5857708277339239366x20)⟩, ⟨(PySem.PyData.keyHash P q156), (.str q156 (nat_lit 156)), (.builtin "builtins.copyright#opaque")⟩, ⟨(PySem.PyData.keyHash P q157), (.str q157 (nat_lit 157)), (.builtin "builtins.credits#opaque")⟩, ⟨(PySem.PyData.keyHash P q158), (.str q158 (nat_lit 158)), (.builtin "builtins.license#opaque")⟩, ⟨(PySem.PyData.keyHash P q159), (.str q159 (nat_lit 159)), (.builtin PySem.W.SL.s7804999707787243718x20)⟩]⟩ (nat_lit 159)), ⟨[]⟩⟩
noncomputable def k2 (P : Params) : Obj := ⟨.none, .none, (.dict ⟨[⟨(PySem.PyData.keyHash P q160), (.str q160 (nat_lit 219)), (.int (.ofNat (nat_lit 34)) (nat_lit 0))⟩, ⟨(PySem.PyData.keyHash P q161), (.str q161 (nat_lit 220)), (.int (.ofNat (nat_lit 1)) (nat_lit 0))⟩]⟩ (nat_lit 2)), ⟨[]⟩⟩
noncomputable def k3 (P : Params) : Obj := ⟨(.type PySem.W.SL.s14018661285674007319x4), .none, (.dict ⟨[⟨(PySem.PyData.keyHash P q0), (.str q0 (nat_lit 165)), (.str q162 (nat_lit 646))⟩, ⟨(PySem.PyData.keyHash P q2), (.str q2 (nat_lit 166)), .none⟩, ⟨(PySem.PyData.keyHash P q3), (.str q3 (nat_lit 167)), .none⟩, ⟨(PySem.PyData.keyHash P q4), (.str q4 (nat_lit 168)), (.builtin PySem.W.SL.s7097527257260152453x26)⟩, ⟨(PySem.PyData.keyHash P q5), (.str q5 (nat_lit 169)), .none⟩, ⟨(PySem.PyData.keyHash P q163), (.str q163 (nat_lit 170)), (.ref (nat_lit 6))⟩, ⟨(PySem.PyData.keyHash P q164), (.str q164 (nat_lit 171)), (.ref (nat_lit 4))⟩, ⟨(PySem.PyData.keyHash P q165), (.str q165 (nat_lit 173)), (.str q166 (nat_lit 172))⟩, ⟨(PySem.PyData.keyHash P q167), (.str q167 (nat_lit 174)), .none⟩, ⟨(PySem.PyData.keyHash P q168), (.str q168 (nat_lit 222)), (.ref (nat_lit 34))⟩, ⟨(PySem.PyData.keyHash P q169), (.str q169 (nat_lit 251)), (.ref (nat_lit 54))⟩, ⟨(PySem.PyData.keyHash P q170), (.str q170 (nat_lit 280)), (.ref (nat_lit 75))⟩, ⟨(PySem.PyData.keyHash P q171), (.str q171 (nat_lit 309)), (.ref (nat_lit 96))⟩, ⟨(PySem.PyData.keyHash P q172), (.str q172 (nat_lit 342)), (.ref (nat_lit 117))⟩, ⟨(PySem.PyData.keyHash P q173), (.str q173 (nat_lit 374)), (.ref (nat_lit 138))⟩, ⟨(PySem.PyData.keyHash P q174), (.str q174 (nat_lit 381)), (.ref (nat_lit 149))⟩, ⟨(PySem.PyData.keyHash P q175), (.str q175 (nat_lit 389)), (.ref (nat_lit 156))⟩, ⟨(PySem.PyData.keyHash P q176), (.str q176 (nat_lit 400)), (.ref (nat_lit 163))⟩, ⟨(PySem.PyData.keyHash P q177), (.str q177 (nat_lit 409)), (.ref (nat_lit 170))⟩, ⟨(PySem.PyData.keyHash P q178), (.str q178 (nat_lit 417)), (.ref (nat_lit 177))⟩, ⟨(PySem.PyData.keyHash P q179), (.str q179 (nat_lit 424)), (.ref (nat_lit 184))⟩, ⟨(PySem.PyData.keyHash P q180), (.str q180 (nat_lit 433)), (.ref (nat_lit 191))⟩, ⟨(PySem.PyData.keyHash P q181), (.str q181 (nat_lit 441)), (.ref (nat_lit 198))⟩, ⟨(PySem.PyData.keyHash P q182), (.str q182 (nat_lit 473)), (.ref (nat_lit 215))⟩, ⟨(PySem.PyData.keyHash P q183), (.str q183 (nat_lit 482)), (.ref (nat_lit 224))⟩, ⟨(PySem.PyData.keyHash P q184), (.str q184 (nat_lit 495)), (.ref (nat_lit 231))⟩, ⟨(PySem.PyData.keyHash P q185), (.str q185 (nat_lit 505)), (.ref (nat_lit 238))⟩, ⟨(PySem.PyData.keyHash P q186), (.str q186 (nat_lit 568)), (.ref (nat_lit 256))⟩, ⟨(PySem.PyData.keyHash P q187), (.str q187 (nat_lit 575)), (.ref (nat_lit 267))⟩, ⟨(PySem.PyData.keyHash P q188), (.str q188 (nat_lit 583)), (.ref (nat_lit 274))⟩, ⟨(PySem.PyData.keyHash P q189), (.str q189 (nat_lit 589)), (.ref (nat_lit 279))⟩, ⟨(PySem.PyData.keyHash P q190), (.str q190 (nat_lit 593)), (.int (.ofNat (nat_lit 23)) (nat_lit 592))⟩, ⟨(PySem.PyData.keyHash P q191), (.str q191 (nat_lit 601)), (.ref (nat_lit 286))⟩, ⟨(PySem.PyData.keyHash P q192), (.str q192 (nat_lit 612)), (.ref (nat_lit 293))⟩, ⟨(PySem.PyData.keyHash P q193), (.str q193 (nat_lit 622)), (.ref (nat_lit 300))⟩, ⟨(PySem.PyData.keyHash P q194), (.str q194 (nat_lit 631)), (.ref (nat_lit 307))⟩, ⟨(PySem.PyData.keyHash P q195), (.str q195 (nat_lit 637)), (.ref (nat_lit 312))⟩, ⟨(PySem.PyData.keyHash P q196), (.str q196 (nat_lit 645)), (.ref (nat_lit 319))⟩, ⟨(PySem.PyData.keyHash P q197), (.str q197 (nat_lit 657)), (.ref (nat_lit 326))⟩, ⟨(PySem.PyData.keyHash P q198), (.str q198 (nat_lit 665)), (.ref (nat_lit 333))⟩, ⟨(PySem.PyData.keyHash P q199), (.str q199 (nat_lit 678)), (.ref (nat_lit 340))⟩, ⟨(PySem.PyData.keyHash P q200), (.str q200 (nat_lit 686)), (.ref (nat_lit 347))⟩, ⟨(PySem.PyData.keyHash P q201), (.str q201 (nat_lit 692)), (.ref (nat_lit 352))⟩]⟩ (nat_lit 43)), ⟨[]⟩⟩
noncomputable def k4 (P : Params) : Obj := ⟨(.type PySem.W.SL.s6658869562736209489x6), (.some (nat_lit 0)), .plain, ⟨[]⟩⟩
noncomputable def k18 (P : Params) : Obj := ⟨(.type PySem.W.SL.s15660640913423913556x4), .none, (.cell (.some (.ref (nat_lit 34)))), ⟨[]⟩⟩
noncomputable def k23 (P : Params) : Obj := ⟨(.type PySem.W.SL.s2766695959194262286x5), .none, (.seq ⟨[(.str q202 (nat_lit 201))]⟩ (nat_lit 0)), ⟨[]⟩⟩
noncomputable def k30 (P : Params) : Obj := ⟨(.type PySem.W.SL.s5856160107412720595x4), .none, (.fields ⟨[(.str q203 (nat_lit 202)), (.str q204 (nat_lit 203)), (.str q166 (nat_lit 204)), (.int (.ofNat (nat_lit 4)) (nat_lit 0)), (.int (.ofNat (nat_lit 3)) (nat_lit 0)), (.int (.ofNat (nat_lit 0)) (nat_lit 0)), (.int (.ofNat (nat_lit 0)) (nat_lit 0)), (.int (.ofNat (nat_lit 3)) (nat_lit 0)), (.ref (nat_lit 25)), (.bool true), (.int (.ofNat (nat_lit 181)) (nat_lit 0)), (.ref (nat_lit 26)), .none, (.ref (nat_lit 27)), (.ref (nat_lit 28)), (.ref (nat_lit 29)), (.int (.ofNat (nat_lit 209)) (nat_lit 0)), (.int (.ofNat (nat_lit 4)) (nat_lit 0)), (.str q166 (nat_lit 210))]⟩), ⟨[]⟩⟩
noncomputable def k31 (P : Params) : Obj := ⟨(.type PySem.W.SL.s7174869446012820540x8), .none, (.func ⟨q203, q204, fdP (stIn (nat_lit 1) (nat_lit 0)), .stmts (fdB (stIn (nat_lit 1) (nat_lit 0))), fdS (stIn (nat_lit 1) (nat_lit 0)), (nat_lit 3), [(q205, (nat_lit 18))], (.ref (nat_lit 23)), .none, .none, (.str q206 (nat_lit 187)), .none, (.ref (nat_lit 30)), (.ref (nat_lit 24)), (nat_lit 0)⟩), ⟨[]⟩⟩
noncomputable def k33 (P : Params) : Obj := ⟨(.type PySem.W.SL.s14018661285674007319x4), .none, (.dict ⟨[⟨(PySem.PyData.keyHash P q207), (.str q207 (nat_lit 196)), (.str q206 (nat_lit 187))⟩, ⟨(PySem.PyData.keyHash P q208), (.str q208 (nat_lit 200)), (.int (.ofNat (nat_lit 2)) (nat_lit 199))⟩, ⟨(PySem.PyData.keyHash P q203), (.str q203 (nat_lit 211)), (.ref (nat_lit 31))⟩, ⟨(PySem.PyData.keyHash P q209), (.str q209 (nat_lit 214)), (.ref (nat_lit 32))⟩, ⟨(PySem.PyData.keyHash P q210), (.str q210 (nat_lit 217)), (.ref (nat_lit 35))⟩, ⟨(PySem.PyData.keyHash P q2), (.str q2 (nat_lit 218)), .none⟩]⟩ (nat_lit 4)), ⟨[]⟩⟩
noncomputable def k34 (P : Params) : Obj := ⟨(.type PySem.W.SL.s17162191345867700912x4), .none, (.cls ⟨q168, [(.type PySem.W.SL.s5946037652744460706x9)], [(.ref (nat_lit 34)), (.type PySem.W.SL.s5946037652744460706x9), (.type PySem.W.SL.s4278001404047624695x13), (.type PySem.W.SL.s2742458400755230247x6)], (nat_lit 33), q168, true, [], [], false, .none, false⟩), ⟨[(.some (.ref (nat_lit 15))), .none, (.some (.str q168 (nat_lit 189))), (.some (.str q168 (nat_lit 197))), (.some (.builtin PySem.W.SL.s5160863994218179198x17)), (.some (.bool true))]⟩⟩
noncomputable def k50 (P : Params) : Obj := ⟨(.type PySem.W.SL.s5856160107412720595x4), .none, (.fields ⟨[(.str q203 (nat_lit 235)), (.str q211 (nat_lit 236)), (.str q166 (nat_lit 237)), (.int (.ofNat (nat_lit 10)) (nat_lit 0)), (.int (.ofNat (nat_lit 2)) (nat_lit 0)), (.int (.ofNat (nat_lit 0)) (nat_lit 0)), (.int (.ofNat (nat_lit 0)) (nat_lit 0)), (.int (.ofNat (nat_lit 3)) (nat_lit 0)), (.ref (nat_lit 45)), (.bool true), (.int (.ofNat (nat_lit 181)) (nat_lit 0)), (.ref (nat_lit 46)), .none, (.ref (nat_lit 47)), (.ref (nat_lit 48)), (.ref (nat_lit 49)), (.int (.ofNat (nat_lit 240)) (nat_lit 0)), (.int (.ofNat (nat_lit 10)) (nat_lit 0)), (.str q166 (nat_lit 241))]⟩), ⟨[]⟩⟩
noncomputable def k51 (P : Params) : Obj := ⟨(.type PySem.W.SL.s7174869446012820540x8), .none, (.func ⟨q203, q211, fdP (stIn (nat_lit 2) (nat_lit 0)), .stmts (fdB (stIn (nat_lit 2) (nat_lit 0))), fdS (stIn (nat_lit 2) (nat_lit 0)), (nat_lit 3), [], .none, .none, .none, (.str q206 (nat_lit 187)), .none, (.ref (nat_lit 50)), .none, (nat_lit 0)⟩), ⟨[]⟩⟩
noncomputable def k53 (P : Params) : Obj := ⟨(.type PySem.W.SL.s14018661285674007319x4), .none, (.dict ⟨[⟨(PySem.PyData.keyHash P q207), (.str q207 (nat_lit 230)), (.str q206 (nat_lit 187))⟩, ⟨(PySem.PyData.keyHash P q208), (.str q208 (nat_lit 234)), (.int (.ofNat (nat_lit 8)) (nat_lit 233))⟩, ⟨(PySem.PyData.keyHash P q203), (.str q203 (nat_lit 242)), (.ref (nat_lit 51))⟩, ⟨(PySem.PyData.keyHash P q209), (.str q209 (nat_lit 244)), (.ref (nat_lit 52))⟩, ⟨(PySem.PyData.keyHash P q212), (.str q212 (nat_lit 246)), (.ref (nat_lit 55))⟩, ⟨(PySem.PyData.keyHash P q210), (.str q210 (nat_lit 248)), (.ref (nat_lit 56))⟩, ⟨(PySem.PyData.keyHash P q2), (.str q2 (nat_lit 249)), .none⟩]⟩ (nat_lit 4)), ⟨[]⟩⟩
noncomputable def k54 (P : Params) : Obj := ⟨(.type PySem.W.SL.s17162191345867700912x4), .none, (.cls ⟨q169, [(.type PySem.W.SL.s2742458400755230247x6)], [(.ref (nat_lit 54)), (.type PySem.W.SL.s2742458400755230247x6)], (nat_lit 53), q169, true, [], [], false, .none, false⟩), ⟨[.none, .none, (.some (.str q169 (nat_lit 223))), (.some (.str q169 (nat_lit 231))), (.some (.builtin PySem.W.SL.s11443829558043349243x14)), (.some (.bool true))]⟩⟩
noncomputable def k134 (P : Params) : Obj := ⟨(.type PySem.W.SL.s5856160107412720595x4), .none, (.fields ⟨[(.str q203 (nat_lit 355)), (.str q213 (nat_lit 356)), (.str q166 (nat_lit 357)), (.int (.ofNat (nat_lit 28)) (nat_lit 0)), (.int (.ofNat (nat_lit 3)) (nat_lit 0)), (.int (.ofNat (nat_lit 0)) (nat_lit 0)), (.int (.ofNat (nat_lit 0)) (nat_lit 0)), (.int (.ofNat (nat_lit 3)) (nat_lit 0)), (.ref (nat_lit 129)), (.bool true), (.int (.ofNat (nat_lit 181)) (nat_lit 0)), (.ref (nat_lit 130)), .none, (.ref (nat_lit 131)), (.ref (nat_lit 132)), (.ref (nat_lit 133)), (.int (.ofNat (nat_lit 361)) (nat_lit 0)), (.int (.ofNat (nat_lit 28)) (nat_lit 0)), (.str q166 (nat_lit 362))]⟩), ⟨[]⟩⟩
noncomputable def k135 (P : Params) : Obj := ⟨(.type PySem.W.SL.s7174869446012820540x8), .none, (.func ⟨q203, q213, fdP (stIn (nat_lit 6) (nat_lit 0)), .stmts (fdB (stIn (nat_lit 6) (nat_lit 0))), fdS (stIn (nat_lit 6) (nat_lit 0)), (nat_lit 3), [], .none, .none, .none, (.str q206 (nat_lit 187)), .none, (.ref (nat_lit 134)), .none, (nat_lit 0)⟩), ⟨[]⟩⟩
noncomputable def k137 (P : Params) : Obj := ⟨(.type PySem.W.SL.s14018661285674007319x4), .none, (.dict ⟨[⟨(PySem.PyData.keyHash P q207), (.str q207 (nat_lit 350)), (.str q206 (nat_lit 187))⟩, ⟨(PySem.PyData.keyHash P q208), (.str q208 (nat_lit 354)), (.int (.ofNat (nat_lit 26)) (nat_lit 353))⟩, ⟨(PySem.PyData.keyHash P q203), (.str q203 (nat_lit 363)), (.ref (nat_lit 135))⟩, ⟨(PySem.PyData.keyHash P q209), (.str q209 (nat_lit 367)), (.ref (nat_lit 136))⟩, ⟨(PySem.PyData.keyHash P q212), (.str q212 (nat_lit 369)), (.ref (nat_lit 139))⟩, ⟨(PySem.PyData.keyHash P q210), (.str q210 (nat_lit 371)), (.ref (nat_lit 140))⟩, ⟨(PySem.PyData.keyHash P q2), (.str q2 (nat_lit 372)), .none⟩]⟩ (nat_lit 4)), ⟨[]⟩⟩
noncomputable def k138 (P : Params) : Obj := ⟨(.type PySem.W.SL.s17162191345867700912x4), .none, (.cls ⟨q173, [(.type PySem.W.SL.s2742458400755230247x6)], [(.ref (nat_lit 138)), (.type PySem.W.SL.s2742458400755230247x6)], (nat_lit 137), q173, true, [], [(.ref (nat_lit 215))], false, .none, false⟩), ⟨[.none, .none, (.some (.str q173 (nat_lit 343))), (.some (.str q173 (nat_lit 351))), (.some (.builtin PySem.W.SL.s11443829558043349243x14)), (.some (.bool true))]⟩⟩
noncomputable def k155 (P : Params) : Obj := ⟨(.type PySem.W.SL.s5856160107412720595x4), .none, (.fields ⟨[(.str q175 (nat_lit 382)), (.str q175 (nat_lit 383)), (.str q166 (nat_lit 384)), (.int (.ofNat (nat_lit 46)) (nat_lit 0)), (.int (.ofNat (nat_lit 2)) (nat_lit 0)), (.int (.ofNat (nat_lit 0)) (nat_lit 0)), (.int (.ofNat (nat_lit 0)) (nat_lit 0)), (.int (.ofNat (nat_lit 3)) (nat_lit 0)), (.ref (nat_lit 150)), (.bool true), (.int (.ofNat (nat_lit 181)) (nat_lit 0)), (.ref (nat_lit 151)), .none, (.ref (nat_lit 152)), (.ref (nat_lit 153)), (.ref (nat_lit 154)), (.int (.ofNat (nat_lit 387)) (nat_lit 0)), (.int (.ofNat (nat_lit 46)) (nat_lit 0)), (.str q166 (nat_lit 388))]⟩), ⟨[]⟩⟩
noncomputable def k156 (P : Params) : Obj := ⟨(.type PySem.W.SL.s7174869446012820540x8), .none, (.func ⟨q175, q175, fdP (st (nat_lit 8)), .stmts (fdB (st (nat_lit 8))), fdS (st (nat_lit 8)), (nat_lit 3), [], .none, .none, .none, (.str q206 (nat_lit 187)), .none, (.ref (nat_lit 155)), .none, (nat_lit 0)⟩), ⟨[]⟩⟩
noncomputable def k162 (P : Params) : Obj := ⟨(.type PySem.W.SL.s5856160107412720595x4), .none, (.fields ⟨[(.str q176 (nat_lit 390)), (.str q176 (nat_lit 391)), (.str q166 (nat_lit 392)), (.int (.ofNat (nat_lit 48)) (nat_lit 0)), (.int (.ofNat (nat_lit 2)) (nat_lit 0)), (.int (.ofNat (nat_lit 0)) (nat_lit 0)), (.int (.ofNat (nat_lit 0)) (nat_lit 0)), (.int (.ofNat (nat_lit 3)) (nat_lit 0)), (.ref (nat_lit 157)), (.bool true), (.int (.ofNat (nat_lit 181)) (nat_lit 0)), (.ref (nat_lit 158)), .none, (.ref (nat_lit 159)), (.ref (nat_lit 160)), (.ref (nat_lit 161)), (.int (.ofNat (nat_lit 398)) (nat_lit 0)), (.int (.ofNat (nat_lit 48)) (nat_lit 0)), (.str q166 (nat_lit 399))]⟩), ⟨[]⟩⟩
noncomputable def k163 (P : Params) : Obj := ⟨(.type PySem.W.SL.s7174869446012820540x8), .none, (.func ⟨q176, q176, fdP (st (nat_lit 9)), .stmts (fdB (st (nat_lit 9))), fdS (st (nat_lit 9)), (nat_lit 3), [], .none, .none, .none, (.str q206 (nat_lit 187)), .none, (.ref (nat_lit 162)), .none, (nat_lit 0)⟩), ⟨[]⟩⟩
noncomputable def k169 (P : Params) : Obj := ⟨(.type PySem.W.SL.s5856160107412720595x4), .none, (.fields ⟨[(.str q177 (nat_lit 401)), (.str q177 (nat_lit 402)), (.str q166 (nat_lit 403)), (.int (.ofNat (nat_lit 61)) (nat_lit 0)), (.int (.ofNat (nat_lit 1)) (nat_lit 0)), (.int (.ofNat (nat_lit 0)) (nat_lit 0)), (.int (.ofNat (nat_lit 0)) (nat_lit 0)), (.int (.ofNat (nat_lit 3)) (nat_lit 0)), (.ref (nat_lit 164)), (.bool true), (.int (.ofNat (nat_lit 181)) (nat_lit 0)), (.ref (nat_lit 165)), .none, (.ref (nat_lit 166)), (.ref (nat_lit 167)), (.ref (nat_lit 168)), (.int (.ofNat (nat_lit 407)) (nat_lit 0)), (.int (.ofNat (nat_lit 61)) (nat_lit 0)), (.str q166 (nat_lit 408))]⟩), ⟨[]⟩⟩
noncomputable def k170 (P : Params) : Obj := ⟨(.type PySem.W.SL.s7174869446012820540x8), .none, (.func ⟨q177, q177, fdP (st (nat_lit 10)), .stmts (fdB (st (nat_lit 10))), fdS (st (nat_lit 10)), (nat_lit 3), [], .none, .none, .none, (.str q206 (nat_lit 187)), .none, (.ref (nat_lit 169)), .none, (nat_lit 0)⟩), ⟨[]⟩⟩
noncomputable def k176 (P : Params) : Obj := ⟨(.type PySem.W.SL.s5856160107412720595x4), .none, (.fields ⟨[(.str q178 (nat_lit 410)), (.str q178 (nat_lit 411)), (.str q166 (nat_lit 412)), (.int (.ofNat (nat_lit 67)) (nat_lit 0)), (.int (.ofNat (nat_lit 2)) (nat_lit 0)), (.int (.ofNat (nat_lit 0)) (nat_lit 0)), (.int (.ofNat (nat_lit 0)) (nat_lit 0)), (.int (.ofNat (nat_lit 3)) (nat_lit 0)), (.ref (nat_lit 171)), (.bool true), (.int (.ofNat (nat_lit 181)) (nat_lit 0)), (.ref (nat_lit 172)), .none, (.ref (nat_lit 173)), (.ref (nat_lit 174)), (.ref (nat_lit 175)), (.int (.ofNat (nat_lit 415)) (nat_lit 0)), (.int (.ofNat (nat_lit 67)) (nat_lit 0)), (.str q166 (nat_lit 416))]⟩), ⟨[]⟩⟩
noncomputable def k177 (P : Params) : Obj := ⟨(.type PySem.W.SL.s7174869446012820540x8), .none, (.func ⟨q178, q178, fdP (st (nat_lit 11)), .stmts (fdB (st (nat_lit 11))), fdS (st (nat_lit 11)), (nat_lit 3), [], .none, .none, .none, (.str q206 (nat_lit 187)), .none, (.ref (nat_lit 176)), .none, (nat_lit 0)⟩), ⟨[]⟩⟩
noncomputable def k183 (P : Params) : Obj := ⟨(.type PySem.W.SL.s5856160107412720595x4), .none, (.fields ⟨[(.str q179 (nat_lit 418)), (.str q179 (nat_lit 419)), (.str q166 (nat_lit 420)), (.int (.ofNat (nat_lit 71)) (nat_lit 0)), (.int (.ofNat (nat_lit 1)) (nat_lit 0)), (.int (.ofNat (nat_lit 0)) (nat_lit 0)), (.int (.ofNat (nat_lit 0)) (nat_lit 0)), (.int (.ofNat (nat_lit 3)) (nat_lit 0)), (.ref (nat_lit 178)), (.bool true), (.int (.ofNat (nat_lit 181)) (nat_lit 0)), (.ref (nat_lit 179)), .none, (.ref (nat_lit 180)), (.ref (nat_lit 181)), (.ref (nat_lit 182)), (.int (.ofNat (nat_lit 422)) (nat_lit 0)), (.int (.ofNat (nat_lit 71)) (nat_lit 0)), (.str q166 (nat_lit 423))]⟩), ⟨[]⟩⟩
noncomputable def k184 (P : Params) : Obj := ⟨(.type PySem.W.SL.s7174869446012820540x8), .none, (.func ⟨q179, q179, fdP (st (nat_lit 12)), .stmts (fdB (st (nat_lit 12))), fdS (st (nat_lit 12)), (nat_lit 3), [], .none, .none, .none, (.str q206 (nat_lit 187)), .none, (.ref (nat_lit 183)), .none, (nat_lit 0)⟩), ⟨[]⟩⟩
noncomputable def k190 (P : Params) : Obj := ⟨(.type PySem.W.SL.s5856160107412720595x4), .none, (.fields ⟨[(.str q180 (nat_lit 425)), (.str q180 (nat_lit 426)), (.str q166 (nat_lit 427)), (.int (.ofNat (nat_lit 75)) (nat_lit 0)), (.int (.ofNat (nat_lit 2)) (nat_lit 0)), (.int (.ofNat (nat_lit 0)) (nat_lit 0)), (.int (.ofNat (nat_lit 0)) (nat_lit 0)), (.int (.ofNat (nat_lit 3)) (nat_lit 0)), (.ref (nat_lit 185)), (.bool true), (.int (.ofNat (nat_lit 181)) (nat_lit 0)), (.ref (nat_lit 186)), .none, (.ref (nat_lit 187)), (.ref (nat_lit 188)), (.ref (nat_lit 189)), (.int (.ofNat (nat_lit 431)) (nat_lit 0)), (.int (.ofNat (nat_lit 75)) (nat_lit 0)), (.str q166 (nat_lit 432))]⟩), ⟨[]⟩⟩
noncomputable def k191 (P : Params) : Obj := ⟨(.type PySem.W.SL.s7174869446012820540x8), .none, (.func ⟨q180, q180, fdP (st (nat_lit 13)), .stmts (fdB (st (nat_lit 13))), fdS (st (nat_lit 13)), (nat_lit 3), [], .none, .none, .none, (.str q206 (nat_lit 187)), .none, (.ref (nat_lit 190)), .none, (nat_lit 0)⟩), ⟨[]⟩⟩
noncomputable def k197 (P : Params) : Obj := ⟨(.type PySem.W.SL.s5856160107412720595x4), .none, (.fields ⟨[(.str q181 (nat_lit 434)), (.str q181 (nat_lit 435)), (.str q166 (nat_lit 436)), (.int (.ofNat (nat_lit 80)) (nat_lit 0)), (.int (.ofNat (nat_lit 1)) (nat_lit 0)), (.int (.ofNat (nat_lit 0)) (nat_lit 0)), (.int (.ofNat (nat_lit 0)) (nat_lit 0)), (.int (.ofNat (nat_lit 3)) (nat_lit 0)), (.ref (nat_lit 192)), (.bool true), (.int (.ofNat (nat_lit 181)) (nat_lit 0)), (.ref (nat_lit 193)), .none, (.ref (nat_lit 194)), (.ref (nat_lit 195)), (.ref (nat_lit 196)), (.int (.ofNat (nat_lit 439)) (nat_lit 0)), (.int (.ofNat (nat_lit 80)) (nat_lit 0)), (.str q166 (nat_lit 440))]⟩), ⟨[]⟩⟩
noncomputable def k198 (P : Params) : Obj := ⟨(.type PySem.W.SL.s7174869446012820540x8), .none, (.func ⟨q181, q181, fdP (st (nat_lit 14)), .stmts (fdB (st (nat_lit 14))), fdS (st (nat_lit 14)), (nat_lit 3), [], .none, .none, .none, (.str q206 (nat_lit 187)), .none, (.ref (nat_lit 197)), .none, (nat_lit 0)⟩), ⟨[]⟩⟩
noncomputable def k211 (P : Params) : Obj := ⟨(.type PySem.W.SL.s5856160107412720595x4), .none, (.fields ⟨[(.str q203 (nat_lit 456)), (.str q214 (nat_lit 457)), (.str q166 (nat_lit 458)), (.int (.ofNat (nat_lit 88)) (nat_lit 0)), (.int (.ofNat (nat_lit 5)) (nat_lit 0)), (.int (.ofNat (nat_lit 0)) (nat_lit 0)), (.int (.ofNat (nat_lit 0)) (nat_lit 0)), (.int (.ofNat (nat_lit 3)) (nat_lit 0)), (.ref (nat_lit 206)), (.bool true), (.int (.ofNat (nat_lit 181)) (nat_lit 0)), (.ref (nat_lit 207)), .none, (.ref (nat_lit 208)), (.ref (nat_lit 209)), (.ref (nat_lit 210)), (.int (.ofNat (nat_lit 464)) (nat_lit 0)), (.int (.ofNat (nat_lit 88)) (nat_lit 0)), (.str q166 (nat_lit 465))]⟩), ⟨[]⟩⟩
noncomputable def k212 (P : Params) : Obj := ⟨(.type PySem.W.SL.s7174869446012820540x8), .none, (.func ⟨q203, q214, fdP (stIn (nat_lit 16) (nat_lit 0)), .stmts (fdB (stIn (nat_lit 16) (nat_lit 0))), fdS (stIn (nat_lit 16) (nat_lit 0)), (nat_lit 3), [], .none, .none, .none, (.str q215 (nat_lit 442)), .none, (.ref (nat_lit 211)), .none, (nat_lit 0)⟩), ⟨[]⟩⟩
noncomputable def k214 (P : Params) : Obj := ⟨(.type PySem.W.SL.s14018661285674007319x4), .none, (.dict ⟨[⟨(PySem.PyData.keyHash P q207), (.str q207 (nat_lit 451)), (.str q215 (nat_lit 442))⟩, ⟨(PySem.PyData.keyHash P q208), (.str q208 (nat_lit 455)), (.int (.ofNat (nat_lit 86)) (nat_lit 454))⟩, ⟨(PySem.PyData.keyHash P q203), (.str q203 (nat_lit 466)), (.ref (nat_lit 212))⟩, ⟨(PySem.PyData.keyHash P q209), (.str q209 (nat_lit 470)), (.ref (nat_lit 213))⟩, ⟨(PySem.PyData.keyHash P q2), (.str q2 (nat_lit 471)), .none⟩]⟩ (nat_lit 2)), ⟨[]⟩⟩
noncomputable def k215 (P : Params) : Obj := ⟨(.type PySem.W.SL.s17162191345867700912x4), .none, (.cls ⟨q182, [(.ref (nat_lit 138))], [(.ref (nat_lit 215)), (.ref (nat_lit 138)), (.type PySem.W.SL.s2742458400755230247x6)], (nat_lit 214), q182, true, [], [], false, .none, false⟩), ⟨[(.some (.ref (nat_lit 199))), .none, (.some (.str q182 (nat_lit 444))), (.some (.str q182 (nat_lit 452))), (.some (.builtin PySem.W.SL.s11443829558043349243x14)), (.some (.bool true))]⟩⟩
noncomputable def k223 (P : Params) : Obj := ⟨(.type PySem.W.SL.s5856160107412720595x4), .none, (.fields ⟨[(.str q183 (nat_lit 474)), (.str q183 (nat_lit 475)), (.str q166 (nat_lit 476)), (.int (.ofNat (nat_lit 93)) (nat_lit 0)), (.int (.ofNat (nat_lit 2)) (nat_lit 0)), (.int (.ofNat (nat_lit 0)) (nat_lit 0)), (.int (.ofNat (nat_lit 0)) (nat_lit 0)), (.int (.ofNat (nat_lit 3)) (nat_lit 0)), (.ref (nat_lit 218)), (.bool true), (.int (.ofNat (nat_lit 181)) (nat_lit 0)), (.ref (nat_lit 219)), .none, (.ref (nat_lit 220)), (.ref (nat_lit 221)), (.ref (nat_lit 222)), (.int (.ofNat (nat_lit 480)) (nat_lit 0)), (.int (.ofNat (nat_lit 93)) (nat_lit 0)), (.str q166 (nat_lit 481))]⟩), ⟨[]⟩⟩
noncomputable def k224 (P : Params) : Obj := ⟨(.type PySem.W.SL.s7174869446012820540x8), .none, (.func ⟨q183, q183, fdP (st (nat_lit 17)), .stmts (fdB (st (nat_lit 17))), fdS (st (nat_lit 17)), (nat_lit 3), [], .none, .none, .none, (.str q215 (nat_lit 442)), .none, (.ref (nat_lit 223)), .none, (nat_lit 0)⟩), ⟨[]⟩⟩
noncomputable def k230 (P : Params) : Obj := ⟨(.type PySem.W.SL.s5856160107412720595x4), .none, (.fields ⟨[(.str q184 (nat_lit 483)), (.str q184 (nat_lit 484)), (.str q166 (nat_lit 485)), (.int (.ofNat (nat_lit 98)) (nat_lit 0)), (.int (.ofNat (nat_lit 2)) (nat_lit 0)), (.int (.ofNat (nat_lit 0)) (nat_lit 0)), (.int (.ofNat (nat_lit 0)) (nat_lit 0)), (.int (.ofNat (nat_lit 3)) (nat_lit 0)), (.ref (nat_lit 225)), (.bool true), (.int (.ofNat (nat_lit 181)) (nat_lit 0)), (.ref (nat_lit 226)), .none, (.ref (nat_lit 227)), (.ref (nat_lit 228)), (.ref (nat_lit 229)), (.int (.ofNat (nat_lit 493)) (nat_lit 0)), (.int (.ofNat (nat_lit 98)) (nat_lit 0)), (.str q166 (nat_lit 494))]⟩), ⟨[]⟩⟩
noncomputable def k231 (P : Params) : Obj := ⟨(.type PySem.W.SL.s7174869446012820540x8), .none, (.func ⟨q184, q184, fdP (st (nat_lit 18)), .stmts (fdB (st (nat_lit 18))), fdS (st (nat_lit 18)), (nat_lit 3), [], .none, .none, .none, (.str q215 (nat_lit 442)), .none, (.ref (nat_lit 230)), .none, (nat_lit 0)⟩), ⟨[]⟩⟩
noncomputable def k237 (P : Params) : Obj := ⟨(.type PySem.W.SL.s5856160107412720595x4), .none, (.fields ⟨[(.str q185 (nat_lit 496)), (.str q185 (nat_lit 497)), (.str q166 (nat_lit 498)), (.int (.ofNat (nat_lit 110)) (nat_lit 0)), (.int (.ofNat (nat_lit 1)) (nat_lit 0)), (.int (.ofNat (nat_lit 0)) (nat_lit 0)), (.int (.ofNat (nat_lit 0)) (nat_lit 0)), (.int (.ofNat (nat_lit 3)) (nat_lit 0)), (.ref (nat_lit 232)), (.bool true), (.int (.ofNat (nat_lit 181)) (nat_lit 0)), (.ref (nat_lit 233)), .none, (.ref (nat_lit 234)), (.ref (nat_lit 235)), (.ref (nat_lit 236)), (.int (.ofNat (nat_lit 503)) (nat_lit 0)), (.int (.ofNat (nat_lit 110)) (nat_lit 0)), (.str q166 (nat_lit 504))]⟩), ⟨[]⟩⟩
noncomputable def k238 (P : Params) : Obj := ⟨(.type PySem.W.SL.s7174869446012820540x8), .none, (.func ⟨q185, q185, fdP (st (nat_lit 19)), .stmts (fdB (st (nat_lit 19))), fdS (st (nat_lit 19)), (nat_lit 3), [], .none, .none, .none, (.str q215 (nat_lit 442)), .none, (.ref (nat_lit 237)), .none, (nat_lit 0)⟩), ⟨[]⟩⟩
noncomputable def k246 (P : Params) : Obj := ⟨(.type PySem.W.SL.s2766695959194262286x5), .none, (.seq ⟨[(.int (.ofNat (nat_lit 32)) (nat_lit 520)), (.int (.ofNat (nat_lit 5000)) (nat_lit 521)), (.int (.ofNat (nat_lit 40)) (nat_lit 522)), (.int (.ofNat (nat_lit 5000)) (nat_lit 523))]⟩ (nat_lit 0)), ⟨[]⟩⟩
noncomputable def k252 (P : Params) : Obj := ⟨(.type PySem.W.SL.s5856160107412720595x4), .none, (.fields ⟨[(.str q203 (nat_lit 524)), (.str q216 (nat_lit 525)), (.str q166 (nat_lit 526)), (.int (.ofNat (nat_lit 118)) (nat_lit 0)), (.int (.ofNat (nat_lit 5)) (nat_lit 0)), (.int (.ofNat (nat_lit 0)) (nat_lit 0)), (.int (.ofNat (nat_lit 0)) (nat_lit 0)), (.int (.ofNat (nat_lit 3)) (nat_lit 0)), (.ref (nat_lit 247)), (.bool true), (.int (.ofNat (nat_lit 181)) (nat_lit 0)), (.ref (nat_lit 248)), .none, (.ref (nat_lit 249)), (.ref (nat_lit 250)), (.ref (nat_lit 251)), (.int (.ofNat (nat_lit 532)) (nat_lit 0)), (.int (.ofNat (nat_lit 118)) (nat_lit 0)), (.str q166 (nat_lit 533))]⟩), ⟨[]⟩⟩
noncomputable def k253 (P : Params) : Obj := ⟨(.type PySem.W.SL.s7174869446012820540x8), .none, (.func ⟨q203, q216, fdP (stIn (nat_lit 21) (nat_lit 0)), .stmts (fdB (stIn (nat_lit 21) (nat_lit 0))), fdS (stIn (nat_lit 21) (nat_lit 0)), (nat_lit 3), [], (.ref (nat_lit 246)), .none, .none, (.str q217 (nat_lit 506)), .none, (.ref (nat_lit 252)), .none, (nat_lit 0)⟩), ⟨[]⟩⟩
noncomputable def k255 (P : Params) : Obj := ⟨(.type PySem.W.SL.s14018661285674007319x4), .none, (.dict ⟨[⟨(PySem.PyData.keyHash P q207), (.str q207 (nat_lit 515)), (.str q217 (nat_lit 506))⟩, ⟨(PySem.PyData.keyHash P q208), (.str q208 (nat_lit 519)), (.int (.ofNat (nat_lit 116)) (nat_lit 518))⟩, ⟨(PySem.PyData.keyHash P q203), (.str q203 (nat_lit 534)), (.ref (nat_lit 253))⟩, ⟨(PySem.PyData.keyHash P q209), (.str q209 (nat_lit 561)), (.ref (nat_lit 254))⟩, ⟨(PySem.PyData.keyHash P q212), (.str q212 (nat_lit 563)), (.ref (nat_lit 257))⟩, ⟨(PySem.PyData.keyHash P q210), (.str q210 (nat_lit 565)), (.ref (nat_lit 258))⟩, ⟨(PySem.PyData.keyHash P q2), (.str q2 (nat_lit 566)), .none⟩]⟩ (nat_lit 4)), ⟨[]⟩⟩
noncomputable def k256 (P : Params) : Obj := ⟨(.type PySem.W.SL.s17162191345867700912x4), .none, (.cls ⟨q186, [(.type PySem.W.SL.s2742458400755230247x6)], [(.ref (nat_lit 256)), (.type PySem.W.SL.s2742458400755230247x6)], (nat_lit 255), q186, true, [], [], false, .none, false⟩), ⟨[.none, .none, (.some (.str q186 (nat_lit 508))), (.some (.str q186 (nat_lit 516))), (.some (.builtin PySem.W.SL.s11443829558043349243x14)), (.some (.bool true))]⟩⟩
noncomputable def k266 (P : Params) : Obj := ⟨(.type PySem.W.SL.s5856160107412720595x4), .none, (.fields ⟨[(.str q187 (nat_lit 569)), (.str q187 (nat_lit 570)), (.str q166 (nat_lit 571)), (.int (.ofNat (nat_lit 145)) (nat_lit 0)), (.int (.ofNat (nat_lit 1)) (nat_lit 0)), (.int (.ofNat (nat_lit 0)) (nat_lit 0)), (.int (.ofNat (nat_lit 0)) (nat_lit 0)), (.int (.ofNat (nat_lit 3)) (nat_lit 0)), (.ref (nat_lit 261)), (.bool true), (.int (.ofNat (nat_lit 181)) (nat_lit 0)), (.ref (nat_lit 262)), .none, (.ref (nat_lit 263)), (.ref (nat_lit 264)), (.ref (nat_lit 265)), (.int (.ofNat (nat_lit 573)) (nat_lit 0)), (.int (.ofNat (nat_lit 145)) (nat_lit 0)), (.str q166 (nat_lit 574))]⟩), ⟨[]⟩⟩
noncomputable def k267 (P : Params) : Obj := ⟨(.type PySem.W.SL.s7174869446012820540x8), .none, (.func ⟨q187, q187, fdP (st (nat_lit 22)), .stmts (fdB (st (nat_lit 22))), fdS (st (nat_lit 22)), (nat_lit 3), [], .none, .none, .none, (.str q217 (nat_lit 506)), .none, (.ref (nat_lit 266)), .none, (nat_lit 0)⟩), ⟨[]⟩⟩
noncomputable def k273 (P : Params) : Obj := ⟨(.type PySem.W.SL.s5856160107412720595x4), .none, (.fields ⟨[(.str q188 (nat_lit 576)), (.str q188 (nat_lit 577)), (.str q166 (nat_lit 578)), (.int (.ofNat (nat_lit 148)) (nat_lit 0)), (.int (.ofNat (nat_lit 2)) (nat_lit 0)), (.int (.ofNat (nat_lit 0)) (nat_lit 0)), (.int (.ofNat (nat_lit 0)) (nat_lit 0)), (.int (.ofNat (nat_lit 3)) (nat_lit 0)), (.ref (nat_lit 268)), (.bool true), (.int (.ofNat (nat_lit 181)) (nat_lit 0)), (.ref (nat_lit 269)), .none, (.ref (nat_lit 270)), (.ref (nat_lit 271)), (.ref (nat_lit 272)), (.int (.ofNat (nat_lit 581)) (nat_lit 0)), (.int (.ofNat (nat_lit 148)) (nat_lit 0)), (.str q166 (nat_lit 582))]⟩), ⟨[]⟩⟩
noncomputable def k274 (P : Params) : Obj := ⟨(.type PySem.W.SL.s7174869446012820540x8), .none, (.func ⟨q188, q188, fdP (st (nat_lit 23)), .stmts (fdB (st (nat_lit 23))), fdS (st (nat_lit 23)), (nat_lit 3), [], .none, .none, .none, (.str q217 (nat_lit 506)), .none, (.ref (nat_lit 273)), .none, (nat_lit 0)⟩), ⟨[]⟩⟩
noncomputable def k278 (P : Params) : Obj := ⟨(.type PySem.W.SL.s5856160107412720595x4), .none, (.fields ⟨[(.str q189 (nat_lit 584)), (.str q189 (nat_lit 585)), (.str q166 (nat_lit 586)), (.int (.ofNat (nat_lit 150)) (nat_lit 0)), (.int (.ofNat (nat_lit 1)) (nat_lit 0)), (.int (.ofNat (nat_lit 0)) (nat_lit 0)), (.int (.ofNat (nat_lit 0)) (nat_lit 0)), (.int (.ofNat (nat_lit 3)) (nat_lit 0)), (.ref (nat_lit 275)), (.bool true), (.int (.ofNat (nat_lit 181)) (nat_lit 0)), (.ref (nat_lit 276)), .none, .none, .none, (.ref (nat_lit 277)), (.int (.ofNat (nat_lit 587)) (nat_lit 0)), (.int (.ofNat (nat_lit 150)) (nat_lit 0)), (.str q166 (nat_lit 588))]⟩), ⟨[]⟩⟩
noncomputable def k279 (P : Params) : Obj := ⟨(.type PySem.W.SL.s7174869446012820540x8), .none, (.func ⟨q189, q189, fdP (st (nat_lit 24)), .stmts (fdB (st (nat_lit 24))), fdS (st (nat_lit 24)), (nat_lit 3), [], .none, .none, .none, (.str q217 (nat_lit 506)), .none, (.ref (nat_lit 278)), .none, (nat_lit 0)⟩), ⟨[]⟩⟩
noncomputable def k285 (P : Params) : Obj := ⟨(.type PySem.W.SL.s5856160107412720595x4), .none, (.fields ⟨[(.str q191 (nat_lit 594)), (.str q191 (nat_lit 595)), (.str q166 (nat_lit 596)), (.int (.ofNat (nat_lit 154)) (nat_lit 0)), (.int (.ofNat (nat_lit 2)) (nat_lit 0)), (.int (.ofNat (nat_lit 0)) (nat_lit 0)), (.int (.ofNat (nat_lit 0)) (nat_lit 0)), (.int (.ofNat (nat_lit 3)) (nat_lit 0)), (.ref (nat_lit 280)), (.bool true), (.int (.ofNat (nat_lit 181)) (nat_lit 0)), (.ref (nat_lit 281)), .none, (.ref (nat_lit 282)), (.ref (nat_lit 283)), (.ref (nat_lit 284)), (.int (.ofNat (nat_lit 599)) (nat_lit 0)), (.int (.ofNat (nat_lit 154)) (nat_lit 0)), (.str q166 (nat_lit 600))]⟩), ⟨[]⟩⟩
noncomputable def k286 (P : Params) : Obj := ⟨(.type PySem.W.SL.s7174869446012820540x8), .none, (.func ⟨q191, q191, fdP (st (nat_lit 27)), .stmts (fdB (st (nat_lit 27))), fdS (st (nat_lit 27)), (nat_lit 3), [], .none, .none, .none, (.str q218 (nat_lit 590)), .none, (.ref (nat_lit 285)), .none, (nat_lit 0)⟩), ⟨[]⟩⟩
noncomputable def k292 (P : Params) : Obj := ⟨(.type PySem.W.SL.s5856160107412720595x4), .none, (.fields ⟨[(.str q192 (nat_lit 602)), (.str q192 (nat_lit 603)), (.str q166 (nat_lit 604)), (.int (.ofNat (nat_lit 157)) (nat_lit 0)), (.int (.ofNat (nat_lit 3)) (nat_lit 0)), (.int (.ofNat (nat_lit 0)) (nat_lit 0)), (.int (.ofNat (nat_lit 0)) (nat_lit 0)), (.int (.ofNat (nat_lit 3)) (nat_lit 0)), (.ref (nat_lit 287)), (.bool true), (.int (.ofNat (nat_lit 181)) (nat_lit 0)), (.ref (nat_lit 288)), .none, (.ref (nat_lit 289)), (.ref (nat_lit 290)), (.ref (nat_lit 291)), (.int (.ofNat (nat_lit 610)) (nat_lit 0)), (.int (.ofNat (nat_lit 157)) (nat_lit 0)), (.str q166 (nat_lit 611))]⟩), ⟨[]⟩⟩
noncomputable def k293 (P : Params) : Obj := ⟨(.type PySem.W.SL.s7174869446012820540x8), .none, (.func ⟨q192, q192, fdP (st (nat_lit 28)), .stmts (fdB (st (nat_lit 28))), fdS (st (nat_lit 28)), (nat_lit 3), [], .none, .none, .none, (.str q218 (nat_lit 590)), .none, (.ref (nat_lit 292)), .none, (nat_lit 0)⟩), ⟨[]⟩⟩
noncomputable def k299 (P : Params) : Obj := ⟨(.type PySem.W.SL.s5856160107412720595x4), .none, (.fields ⟨[(.str q193 (nat_lit 615)), (.str q193 (nat_lit 616)), (.str q166 (nat_lit 617)), (.int (.ofNat (nat_lit 163)) (nat_lit 0)), (.int (.ofNat (nat_lit 2)) (nat_lit 0)), (.int (.ofNat (nat_lit 0)) (nat_lit 0)), (.int (.ofNat (nat_lit 0)) (nat_lit 0)), (.int (.ofNat (nat_lit 3)) (nat_lit 0)), (.ref (nat_lit 294)), (.bool true), (.int (.ofNat (nat_lit 181)) (nat_lit 0)), (.ref (nat_lit 295)), .none, (.ref (nat_lit 296)), (.ref (nat_lit 297)), (.ref (nat_lit 298)), (.int (.ofNat (nat_lit 620)) (nat_lit 0)), (.int (.ofNat (nat_lit 163)) (nat_lit 0)), (.str q166 (nat_lit 621))]⟩), ⟨[]⟩⟩
noncomputable def k300 (P : Params) : Obj := ⟨(.type PySem.W.SL.s7174869446012820540x8), .none, (.func ⟨q193, q193, fdP (st (nat_lit 30)), .stmts (fdB (st (nat_lit 30))), fdS (st (nat_lit 30)), (nat_lit 3), [], .none, .none, .none, (.str q219 (nat_lit 613)), .none, (.ref (nat_lit 299)), .none, (nat_lit 0)⟩), ⟨[]⟩⟩
noncomputable def k306 (P : Params) : Obj := ⟨(.type PySem.W.SL.s5856160107412720595x4), .none, (.fields ⟨[(.str q194 (nat_lit 625)), (.str q194 (nat_lit 626)), (.str q166 (nat_lit 627)), (.int (.ofNat (nat_lit 166)) (nat_lit 0)), (.int (.ofNat (nat_lit 1)) (nat_lit 0)), (.int (.ofNat (nat_lit 0)) (nat_lit 0)), (.int (.ofNat (nat_lit 0)) (nat_lit 0)), (.int (.ofNat (nat_lit 3)) (nat_lit 0)), (.ref (nat_lit 301)), (.bool true), (.int (.ofNat (nat_lit 181)) (nat_lit 0)), (.ref (nat_lit 302)), .none, (.ref (nat_lit 303)), (.ref (nat_lit 304)), (.ref (nat_lit 305)), (.int (.ofNat (nat_lit 629)) (nat_lit 0)), (.int (.ofNat (nat_lit 166)) (nat_lit 0)), (.str q166 (nat_lit 630))]⟩), ⟨[]⟩⟩
noncomputable def k307 (P : Params) : Obj := ⟨(.type PySem.W.SL.s7174869446012820540x8), .none, (.func ⟨q194, q194, fdP (st (nat_lit 32)), .stmts (fdB (st (nat_lit 32))), fdS (st (nat_lit 32)), (nat_lit 3), [], .none, .none, .none, (.str q220 (nat_lit 623)), .none, (.ref (nat_lit 306)), .none, (nat_lit 0)⟩), ⟨[]⟩⟩
noncomputable def k311 (P : Params) : Obj := ⟨(.type PySem.W.SL.s5856160107412720595x4), .none, (.fields ⟨[(.str q195 (nat_lit 632)), (.str q195 (nat_lit 633)), (.str q166 (nat_lit 634)), (.int (.ofNat (nat_lit 170)) (nat_lit 0)), (.int (.ofNat (nat_lit 1)) (nat_lit 0)), (.int (.ofNat (nat_lit 0)) (nat_lit 0)), (.int (.ofNat (nat_lit 0)) (nat_lit 0)), (.int (.ofNat (nat_lit 3)) (nat_lit 0)), (.ref (nat_lit 308)), (.bool true), (.int (.ofNat (nat_lit 181)) (nat_lit 0)), (.ref (nat_lit 309)), .none, .none, .none, (.ref (nat_lit 310)), (.int (.ofNat (nat_lit 635)) (nat_lit 0)), (.int (.ofNat (nat_lit 170)) (nat_lit 0)), (.str q166 (nat_lit 636))]⟩), ⟨[]⟩⟩
noncomputable def k312 (P : Params) : Obj := ⟨(.type PySem.W.SL.s7174869446012820540x8), .none, (.func ⟨q195, q195, fdP (st (nat_lit 33)), .stmts (fdB (st (nat_lit 33))), fdS (st (nat_lit 33)), (nat_lit 3), [], .none, .none, .none, (.str q220 (nat_lit 623)), .none, (.ref (nat_lit 311)), .none, (nat_lit 0)⟩), ⟨[]⟩⟩
noncomputable def k318 (P : Params) : Obj := ⟨(.type PySem.W.SL.s5856160107412720595x4), .none, (.fields ⟨[(.str q196 (nat_lit 638)), (.str q196 (nat_lit 639)), (.str q166 (nat_lit 640)), (.int (.ofNat (nat_lit 172)) (nat_lit 0)), (.int (.ofNat (nat_lit 2)) (nat_lit 0)), (.int (.ofNat (nat_lit 0)) (nat_lit 0)), (.int (.ofNat (nat_lit 0)) (nat_lit 0)), (.int (.ofNat (nat_lit 3)) (nat_lit 0)), (.ref (nat_lit 313)), (.bool true), (.int (.ofNat (nat_lit 181)) (nat_lit 0)), (.ref (nat_lit 314)), .none, (.ref (nat_lit 315)), (.ref (nat_lit 316)), (.ref (nat_lit 317)), (.int (.ofNat (nat_lit 643)) (nat_lit 0)), (.int (.ofNat (nat_lit 172)) (nat_lit 0)), (.str q166 (nat_lit 644))]⟩), ⟨[]⟩⟩
noncomputable def k319 (P : Params) : Obj := ⟨(.type PySem.W.SL.s7174869446012820540x8), .none, (.func ⟨q196, q196, fdP (st (nat_lit 34)), .stmts (fdB (st (nat_lit 34))), fdS (st (nat_lit 34)), (nat_lit 3), [], .none, .none, .none, (.str q220 (nat_lit 623)), .none, (.ref (nat_lit 318)), .none, (nat_lit 0)⟩), ⟨[]⟩⟩
noncomputable def k325 (P : Params) : Obj := ⟨(.type PySem.W.SL.s5856160107412720595x4), .none, (.fields ⟨[(.str q197 (nat_lit 648)), (.str q197 (nat_lit 649)), (.str q166 (nat_lit 650)), (.int (.ofNat (nat_lit 177)) (nat_lit 0)), (.int (.ofNat (nat_lit 2)) (nat_lit 0)), (.int (.ofNat (nat_lit 0)) (nat_lit 0)), (.int (.ofNat (nat_lit 0)) (nat_lit 0)), (.int (.ofNat (nat_lit 3)) (nat_lit 0)), (.ref (nat_lit 320)), (.bool true), (.int (.ofNat (nat_lit 181)) (nat_lit 0)), (.ref (nat_lit 321)), .none, (.ref (nat_lit 322)), (.ref (nat_lit 323)), (.ref (nat_lit 324)), (.int (.ofNat (nat_lit 655)) (nat_lit 0)), (.int (.ofNat (nat_lit 177)) (nat_lit 0)), (.str q166 (nat_lit 656))]⟩), ⟨[]⟩⟩
noncomputable def k326 (P : Params) : Obj := ⟨(.type PySem.W.SL.s7174869446012820540x8), .none, (.func ⟨q197, q197, fdP (st (nat_lit 36)), .stmts (fdB (st (nat_lit 36))), fdS (st (nat_lit 36)), (nat_lit 3), [], .none, .none, .none, (.str q162 (nat_lit 646)), .none, (.ref (nat_lit 325)), .none, (nat_lit 0)⟩), ⟨[]⟩⟩
noncomputable def k332 (P : Params) : Obj := ⟨(.type PySem.W.SL.s5856160107412720595x4), .none, (.fields ⟨[(.str q198 (nat_lit 658)), (.str q198 (nat_lit 659)), (.str q166 (nat_lit 660)), (.int (.ofNat (nat_lit 181)) (nat_lit 0)), (.int (.ofNat (nat_lit 1)) (nat_lit 0)), (.int (.ofNat (nat_lit 0)) (nat_lit 0)), (.int (.ofNat (nat_lit 0)) (nat_lit 0)), (.int (.ofNat (nat_lit 3)) (nat_lit 0)), (.ref (nat_lit 327)), (.bool true), (.int (.ofNat (nat_lit 181)) (nat_lit 0)), (.ref (nat_lit 328)), .none, (.ref (nat_lit 329)), (.ref (nat_lit 330)), (.ref (nat_lit 331)), (.int (.ofNat (nat_lit 663)) (nat_lit 0)), (.int (.ofNat (nat_lit 181)) (nat_lit 0)), (.str q166 (nat_lit 664))]⟩), ⟨[]⟩⟩
noncomputable def k333 (P : Params) : Obj := ⟨(.type PySem.W.SL.s7174869446012820540x8), .none, (.func ⟨q198, q198, fdP (st (nat_lit 37)), .stmts (fdB (st (nat_lit 37))), fdS (st (nat_lit 37)), (nat_lit 3), [], .none, .none, .none, (.str q162 (nat_lit 646)), .none, (.ref (nat_lit 332)), .none, (nat_lit 0)⟩), ⟨[]⟩⟩
noncomputable def k339 (P : Params) : Obj := ⟨(.type PySem.W.SL.s5856160107412720595x4), .none, (.fields ⟨[(.str q199 (nat_lit 666)), (.str q199 (nat_lit 667)), (.str q166 (nat_lit 668)), (.int (.ofNat (nat_lit 184)) (nat_lit 0)), (.int (.ofNat (nat_lit 1)) (nat_lit 0)), (.int (.ofNat (nat_lit 0)) (nat_lit 0)), (.int (.ofNat (nat_lit 0)) (nat_lit 0)), (.int (.ofNat (nat_lit 3)) (nat_lit 0)), (.ref (nat_lit 334)), (.bool true), (.int (.ofNat (nat_lit 181)) (nat_lit 0)), (.ref (nat_lit 335)), .none, (.ref (nat_lit 336)), (.ref (nat_lit 337)), (.ref (nat_lit 338)), (.int (.ofNat (nat_lit 676)) (nat_lit 0)), (.int (.ofNat (nat_lit 184)) (nat_lit 0)), (.str q166 (nat_lit 677))]⟩), ⟨[]⟩⟩
noncomputable def k340 (P : Params) : Obj := ⟨(.type PySem.W.SL.s7174869446012820540x8), .none, (.func ⟨q199, q199, fdP (st (nat_lit 38)), .stmts (fdB (st (nat_lit 38))), fdS (st (nat_lit 38)), (nat_lit 3), [], .none, .none, .none, (.str q162 (nat_lit 646)), .none, (.ref (nat_lit 339)), .none, (nat_lit 0)⟩), ⟨[]⟩⟩
noncomputable def k346 (P : Params) : Obj := ⟨(.type PySem.W.SL.s5856160107412720595x4), .none, (.fields ⟨[(.str q200 (nat_lit 679)), (.str q200 (nat_lit 680)), (.str q166 (nat_lit 681)), (.int (.ofNat (nat_lit 193)) (nat_lit 0)), (.int (.ofNat (nat_lit 1)) (nat_lit 0)), (.int (.ofNat (nat_lit 0)) (nat_lit 0)), (.int (.ofNat (nat_lit 0)) (nat_lit 0)), (.int (.ofNat (nat_lit 3)) (nat_lit 0)), (.ref (nat_lit 341)), (.bool true), (.int (.ofNat (nat_lit 181)) (nat_lit 0)), (.ref (nat_lit 342)), .none, (.ref (nat_lit 343)), (.ref (nat_lit 344)), (.ref (nat_lit 345)), (.int (.ofNat (nat_lit 684)) (nat_lit 0)), (.int (.ofNat (nat_lit 193)) (nat_lit 0)), (.str q166 (nat_lit 685))]⟩), ⟨[]⟩⟩
noncomputable def k347 (P : Params) : Obj := ⟨(.type PySem.W.SL.s7174869446012820540x8), .none, (.func ⟨q200, q200, fdP (st (nat_lit 39)), .stmts (fdB (st (nat_lit 39))), fdS (st (nat_lit 39)), (nat_lit 3), [], .none, .none, .none, (.str q162 (nat_lit 646)), .none, (.ref (nat_lit 346)), .none, (nat_lit 0)⟩), ⟨[]⟩⟩
noncomputable def k351 (P : Params) : Obj := ⟨(.type PySem.W.SL.s5856160107412720595x4), .none, (.fields ⟨[(.str q201 (nat_lit 687)), (.str q201 (nat_lit 688)), (.str q166 (nat_lit 689)), (.int (.ofNat (nat_lit 198)) (nat_lit 0)), (.int (.ofNat (nat_lit 1)) (nat_lit 0)), (.int (.ofNat (nat_lit 0)) (nat_lit 0)), (.int (.ofNat (nat_lit 0)) (nat_lit 0)), (.int (.ofNat (nat_lit 3)) (nat_lit 0)), (.ref (nat_lit 348)), (.bool true), (.int (.ofNat (nat_lit 181)) (nat_lit 0)), (.ref (nat_lit 349)), .none, .none, .none, (.ref (nat_lit 350)), (.int (.ofNat (nat_lit 690)) (nat_lit 0)), (.int (.ofNat (nat_lit 198)) (nat_lit 0)), (.str q166 (nat_lit 691))]⟩), ⟨[]⟩⟩
noncomputable def k352 (P : Params) : Obj := ⟨(.type PySem.W.SL.s7174869446012820540x8), .none, (.func ⟨q201, q201, fdP (st (nat_lit 40)), .stmts (fdB (st (nat_lit 40))), fdS (st (nat_lit 40)), (nat_lit 3), [], .none, .none, .none, (.str q162 (nat_lit 646)), .none, (.ref (nat_lit 351)), .none, (nat_lit 0)⟩), ⟨[]⟩⟩
noncomputable def ktop (P : Params) : KT := (.node (.some (k0 P)) (.node .none (.node (.some (k3 P)) (.node .none (.node .none (.node (.some (k31 P)) (.node .none (.node .none (.node (.some (k255 P)) .nil .nil) .nil) (.node (.some (k191 P)) (.node (.some (k319 P)) .nil .nil) .nil)) (.node .none .nil (.node (.some (k223 P)) (.node (.some (k351 P)) .nil .nil) .nil))) .nil) (.node (.some (k23 P)) (.node .none (.node .none (.node (.some (k135 P)) .nil .nil) .nil) (.node .none .nil (.node (.some (k231 P)) .nil .nil))) (.node .none (.node .none (.node .none (.node (.some (k279 P)) .nil .nil) .nil) (.node (.some (k215 P)) .nil .nil)) (.node .none (.node (.some (k183 P)) (.node (.some (k311 P)) .nil .nil) .nil) .nil)))) (.node .none (.node .none (.node .none .nil (.node .none (.node (.some (k163 P)) .nil .nil) .nil)) (.node (.some (k51 P)) (.node .none .nil (.node (.some (k211 P)) (.node (.some (k339 P)) .nil .nil) .nil)) (.node .none (.node .none (.node (.some (k307 P)) .nil .nil) .nil) .nil))) (.node .none (.node .none (.node .none (.node .none (.node (.some (k267 P)) .nil .nil) .nil) .nil) (.node .none (.node .none (.node (.some (k299 P)) .nil .nil) .nil) .nil)) (.node .none (.node .none (.node (.some (k155 P)) .nil .nil) (.node .none (.node (.some (k347 P)) .nil .nil) .nil)) .nil)))) (.node .none (.node .none (.node .none (.node (.some (k33 P)) .nil .nil) (.node .none (.node .none (.node .none (.node (.some (k273 P)) .nil .nil) .nil) .nil) (.node .none (.node (.some (k177 P)) .nil .nil) .nil))) (.node .none (.node .none (.node .none (.node (.some (k137 P)) .nil .nil) .nil) (.node .none (.node (.some (k169 P)) .nil .nil) .nil)) .nil)) (.node .none (.node .none (.node .none (.node .none .nil (.node (.some (k197 P)) (.node (.some (k325 P)) .nil .nil) .nil)) (.node .none (.node .none (.node (.some (k293 P)) .nil .nil) .nil) .nil)) (.node (.some (k53 P)) .nil .nil)) (.node .none (.node .none (.node .none .nil (.node .none (.node (.some (k333 P)) .nil .nil) .nil)) (.node .none .nil (.node (.some (k237 P)) .nil .nil))) (.node .none (.node .none (.node .none (.node (.some (k285 P)) .nil .nil) .nil) .nil) (.node .none .nil (.node (.some (k253 P)) .nil .nil))))))) (.node (.some (k2 P)) (.node (.some (k4 P)) (.node .none (.node .none (.node .none (.node .none (.node .none (.node (.some (k256 P)) .nil .nil) .nil) .nil) (.node .none .nil (.node (.some (k224 P)) (.node (.some (k352 P)) .nil .nil) .nil))) (.node .none .nil (.node .none (.node (.some (k176 P)) .nil .nil) .nil))) (.node .none .nil (.node .none .nil (.node .none (.node (.some (k184 P)) (.node (.some (k312 P)) .nil .nil) .nil) .nil)))) (.node .none (.node .none (.node .none .nil (.node .none (.node .none (.node (.some (k292 P)) .nil .nil) .nil) .nil)) (.node .none (.node .none .nil (.node (.some (k212 P)) (.node (.some (k340 P)) .nil .nil) .nil)) .nil)) (.node .none (.node .none (.node .none .nil (.node .none (.node (.some (k332 P)) .nil .nil) .nil)) (.node .none (.node .none (.node (.some (k300 P)) .nil .nil) .nil) .nil)) (.node .none (.node .none (.node (.some (k156 P)) .nil .nil) .nil) (.node .none .nil (.node (.some (k252 P)) .nil .nil)))))) (.node .none (.node .none (.node (.some (k18 P)) (.node (.some (k34 P)) .nil (.node .none (.node (.some (k162 P)) .nil .nil) .nil)) (.node (.some (k50 P)) (.node .none (.node .none (.node (.some (k274 P)) .nil .nil) .nil) .nil) (.node .none (.node .none (.node (.some (k306 P)) .nil .nil) .nil) .nil))) (.node .none (.node .none (.node .none (.node (.some (k138 P)) (.node (.some (k266 P)) .nil .nil) .nil) .nil) (.node .none (.node (.some (k170 P)) .nil .nil) .nil)) (.node .none (.node .none .nil (.node .none (.node (.some (k346 P)) .nil .nil) .nil)) .nil))) (.node .none (.node .none (.node .none (.node .none (.node (.some (k134 P)) .nil .nil) (.node (.some (k198 P)) (.node (.some (k326 P)) .nil .nil) .nil)) (.node .none .nil (.node (.some (k230 P)) .nil .nil))) (.node (.some (k54 P)) (.node .none (.node .none (.node (.some (k278 P)) .nil .nil) .nil) (.node (.some (k214 P)) .nil .nil)) (.node .none .nil (.node (.some (k246 P)) .nil .nil)))) (.node (.some (k30 P)) (.node .none .nil (.node .none .nil (.node (.some (k238 P)) .nil .nil))) (.node .none (.node .none (.node .none (.node (.some (k286 P)) .nil .nil) .nil) .nil) (.node .none (.node (.some (k190 P)) (.node (.some (k318 P)) .nil .nil) .nil) .nil)))))))
noncomputable def runZ := run denZ
noncomputable def wf (w : World) (b : Bool) : World := w.withFollow "special-get-raises" b
noncomputable def wg (w : World) (b : Bool) : World := w.withFollow "comprehension-iter-twice" b
lay_quick Mine.ktop Mine.runZ Mine.wf Mine.wg Mine.denZ
end Mine
end
section
namespace Mine
@[irreducible] noncomputable def rz : Ws → Nat → Nat → List (Nat × Nat) → St → Out := PySem.W.Fast.tw11587518126566407910
@[irreducible] noncomputable def dz : Code → Sem PySem.Fin := PySem.W.Fast.tw14673640406469998265
@[irreducible] noncomputable def kq : Params → KT := PySem.W.Fast.tw1434294617125628585
@[irreducible] noncomputable def vf : World → Bool → World := PySem.W.Fast.tw3846691660783797421
@[irreducible] noncomputable def vg : World → Bool → World := PySem.W.Fast.tw12038685872608247797
theorem rz_eq : run denZ = rz := by unfold rz; exact PySem.W.Fast.te11587518126566407910
theorem dz_eq : denZ = dz := by unfold dz; exact PySem.W.Fast.te14673640406469998265
theorem vf_eq : wf = vf := by unfold vf; exact PySem.W.Fast.te3846691660783797421
theorem vg_eq : wg = vg := by unfold vg; exact PySem.W.Fast.te12038685872608247797
theorem worlds {P : World → Prop} (h0 : ∀ w, P (vf w false)) (h1 : ∀ w, P (vf w true)) (w : World) : P w := by
  have h : ∀ b, P (vf w b) := fun b => by cases b <;> first | exact h0 w | exact h1 w
  have := h (w.params.followText "special-get-raises")
  rw [← vf_eq] at this
  unfold wf at this
  rwa [World.withFollow_self] at this
theorem worlds2 {P : World → Prop} (h0 : ∀ w, P (vg w false)) (h1 : ∀ w, P (vg w true)) (w : World) : P w := by
  have h : ∀ b, P (vg w b) := fun b => by cases b <;> first | exact h0 w | exact h1 w
  have := h (w.params.followText "comprehension-iter-twice")
  rw [← vg_eq] at this
  unfold wg at this
  rwa [World.withFollow_self] at this
theorem eqsOk_of : ∀ {l : List (Nat × Nat)}, l.map Prod.fst = l.map Prod.snd → eqsOk l
  | [], _ => trivial
  | p :: l, e => by
    rw [List.map_cons, List.map_cons] at e
    injection e with e1 e2
    exact ⟨e1, eqsOk_of e2⟩
/-- a state's successors -/
noncomputable def St.run (S : St) (V : Ws) (n cs : Nat) : St := (rz V n cs [] S).st
theorem seg {V : Wb} (hA : V.A₀.depth ≤ V.dm) (hg : V.g1 ≤ V.g2) (n cs : Nat) {S : St} (h1 : (rz V.toWs n cs [] S).ok = true)
    (h2 : (rz V.toWs n cs [] S).eqs.map Prod.fst = (rz V.toWs n cs [] S).eqs.map Prod.snd) (h3 : Go V (S.run V.toWs n cs)) : Go V S := by
  have z := run_sound (den := denZ) (V := V) (fun A c Q E s hr hw => denZ_ok hr hw) hA hg n cs [] S
  rw [rz_eq] at z
  exact z h1 (eqsOk_of h2) h3
theorem Go.tree {V : Wb} {S : St} (t : Sem PySem.Fin) (e : S.t = t) (h : Go V ⟨S.c, S.κ, t, S.T, S.m, S.nx, S.tk⟩) : Go V S := by
  obtain ⟨c, κ, t', T, m, nx, tk⟩ := S
  cases e
  exact h
theorem Go.done {V : Wb} {S : St} (f : Flow) (hκ : S.κ = []) (e : S.t = .pure (.done f)) (h : ∀ h', Rep V.toWs V.h₀ V.M S.T S.nx h' → V.R₀ (.ok f) ⟨h', #[], V.d, S.tk, V.os⟩) : Go V S := by
  obtain ⟨c, κ, t', T, m, nx, tk⟩ := S
  cases hκ
  cases e
  intro h' D Γ p hc hΓ
  exact h h' D
noncomputable def retI : Sem PySem.Fin → Option Int
  | .pure (.done (.ret (.int k _))) => some k
  | _ => none
theorem retI_eq {t : Sem PySem.Fin} {k : Int} (e : retI t = some k) : ∃ tr, t = .pure (.done (.ret (.int k tr))) := by
  unfold retI at e
  split at e
  · cases e; exact ⟨_, rfl⟩
  · cases e
/-- an end that hands an int back -/
theorem Go.doneI {V : Wb} {S : St} (k : Int) (hκ : S.κ = []) (e : retI S.t = some k) (h : ∀ h' tr, Rep V.toWs V.h₀ V.M S.T S.nx h' → V.R₀ (.ok (.ret (.int k tr))) ⟨h', #[], V.d, S.tk, V.os⟩) : Go V S := by
  obtain ⟨tr, e⟩ := retI_eq e
  exact Go.done _ hκ e fun h' D => h h' tr D
noncomputable def St.at (S : St) (t : Sem PySem.Fin) : St := ⟨S.c, S.κ, t, S.T, S.m, S.nx, S.tk⟩
/-- a call, by what is known of it -/
noncomputable def callIs : Sem PySem.Fin → Option (Code × Option Value)
  | .call c hd _ _ _ => some (c, hd)
  | _ => none
noncomputable def callK : Sem PySem.Fin → Result → Sem PySem.Fin
  | .call _ _ _ _ k => k
  | t => fun _ => t
theorem Go.call {V : Wb} {S : St} (c' : Code) (hd : Option Value) (e : callIs S.t = some (c', hd)) (hm : okMark hd = true)
    (h : ∀ h', Rep V.toWs V.h₀ V.M S.T S.nx h' → codeAny (model V.prog V.w) (((arOf V.A₀ S.κ).under S.c).mark hd) c' (fun r s' => Means V S.c S.κ (callK S.t r) s') ⟨h', #[], V.d, S.tk, V.os⟩) : Go V S := by
  obtain ⟨c, κ, t, T, m, nx, tk⟩ := S
  cases t <;> cases e
  intro h' D
  have hnb : hd ≠ some byPass := by
    intro e
    subst e
    simp [okMark] at hm
  exact y_call _ _ _ _ _ _ _ _ _ _ _ _ _ hnb (h h' D)
noncomputable def St.ret (S : St) (r : Result) (dt : Nat) : St := ⟨S.c, S.κ, callK S.t r, S.T, S.m, S.nx, S.tk + dt⟩
noncomputable def St.retP (S : St) (r : Result) (i a : Nat) (o : Obj) (dt : Nat) : St := ⟨S.c, S.κ, callK S.t r, S.T.put i a o, S.m, S.nx, S.tk + dt⟩
noncomputable def St.retA (S : St) (o : Obj) (dt : Nat) : St := ⟨S.c, S.κ, callK S.t (.ok (.ret (.ref S.nx))), S.T.put S.m S.nx o, S.m + 1, S.nx + 1, S.tk + dt⟩
noncomputable def St.retN (S : St) (r : Result) (nx' t' : Nat) : St := ⟨S.c, S.κ, callK S.t r, S.T, S.m, nx', t'⟩
noncomputable def St.retQ (S : St) (r : Result) (i a : Nat) (o : Obj) (nx' t' : Nat) : St := ⟨S.c, S.κ, callK S.t r, S.T.put i a o, S.m, nx', t'⟩
/-- a call that changes nothing of the heap -/
theorem Go.callP {V : Wb} {S : St} (c' : Code) (hd : Option Value) (e : callIs S.t = some (c', hd)) (hm : okMark hd = true) (r : Nat → Result) (dt : Nat)
    (h : ∀ h' R, Rep V.toWs V.h₀ V.M S.T S.nx h' → R (r S.tk) ⟨h', #[], V.d, S.tk + dt, V.os⟩ → codeAny (model V.prog V.w) (((arOf V.A₀ S.κ).under S.c).mark hd) c' R ⟨h', #[], V.d, S.tk, V.os⟩)
    (next : Go V (S.ret (r S.tk) dt)) : Go V S :=
  Go.call c' hd e hm fun h' D => h h' _ D (next h' D)
theorem Go.from {V : Wb} {c : Code} {κ : Ko} {t : Sem PySem.Fin} {T : LT} (m : Nat) {nx tk : Nat} {h : Heap} (G : Go V ⟨c, κ, t, T, m, nx, tk⟩) (D : Rep V.toWs V.h₀ V.M T nx h) : Means V c κ t ⟨h, #[], V.d, tk, V.os⟩ := G h D
/-- what a call leaves as it was -/
structure Aft (h h' : Heap) (M : List Nat) : Prop where
  keep : ∀ b o, h.get? b = some o → b ∉ M → h'.get? b = some o
  more : h.objs.size ≤ h'.objs.size
theorem Rep.aft {V : Ws} {h₀ h : Heap} {M : List Nat} {T : LT} {nx : Nat} (D : Rep V h₀ M T nx h) : Aft h₀ h M := ⟨D.keep, D.more⟩
/-- the start -/
theorem Rep.start {V : Ws} {h : Heap} {M : List Nat} {T : LT} (K : ∀ a o, V.kt.get a = some o → h.get? a = some o) (own : ∀ i a o, T.get i = some (a, o) → h.get? a = some o)
    (one : ∀ i j a o o', T.get i = some (a, o) → T.get j = some (a, o') → i = j) (off : ∀ i a o, T.get i = some (a, o) → V.kt.get a = none)
    (may : ∀ i a o, T.get i = some (a, o) → i < V.g1 → a ∈ M) (lim : ∀ i a o, T.get i = some (a, o) → i < V.g2) (hx : V.ex = []) : Rep V h M T h.objs.size h :=
  ⟨rfl, own, one, off, K, may, fun i a o e hi => absurd (lim i a o e) (Nat.not_lt.mpr hi), fun _ _ e _ => e, Nat.le_refl _, fun p hp => by rw [hx] at hp; cases hp⟩
/-- the ledger as a list -/
noncomputable def LT.of : Nat → List (Nat × Obj) → LT → LT
  | _, [], T => T
  | i, (a, o) :: l, T => LT.of (i + 1) l (T.put i a o)
/-- behind a call that changes the ledger's i alone -/
theorem Rep.step {V : Ws} {h₀ h h' : Heap} {M : List Nat} {T : LT} {nx : Nat} (D : Rep V h₀ M T nx h) {M' : List Nat} (F : Aft h h' M') (hM : M' = []) : Rep V h₀ M T h'.objs.size h' := by
  subst hM
  refine ⟨rfl, fun i a o e => F.keep _ _ (D.own i a o e) (by simp), D.one, D.off, fun a o e => F.keep _ _ (D.known a o e) (by simp), D.may, D.new, fun b o e q => F.keep _ _ (D.keep b o e q) (by simp), Nat.le_trans D.more F.more, fun p hp => ⟨F.keep _ _ (D.xs p hp).1 (by simp), (D.xs p hp).2⟩⟩
theorem Rep.step1 {V : Ws} {h₀ h h' : Heap} {M : List Nat} {T : LT} {nx : Nat} (D : Rep V h₀ M T nx h) {i b : Nat} {o o' : Obj} (e : T.get i = some (b, o)) (F : Aft h h' [b]) (ho : h'.get? b = some o') (hi : i < V.g1 ∨ V.g2 ≤ i) : Rep V h₀ M (T.put i b o') h'.objs.size h' := by
  have G := LT.get_put b o' T i (LT.get_put_some b o' T i (by rw [e]; rfl))
  have ne : ∀ j a o1, j ≠ i → T.get j = some (a, o1) → a ≠ b := fun j a o1 hj e' z => hj (D.one j i a o1 o e' (z ▸ e))
  have back : ∀ j a o1, (T.put i b o').get j = some (a, o1) → ∃ o2, T.get j = some (a, o2) := fun j a o1 e' => by
    rw [G] at e'
    by_cases hj : j = i
    · rw [if_pos hj] at e'; cases e'; exact ⟨o, hj ▸ e⟩
    · rw [if_neg hj] at e'; exact ⟨o1, e'⟩
  refine ⟨rfl, fun j a o1 e' => ?_, fun j k a o1 o2 e1 e2 => ?_, fun j a o1 e' => ?_, fun a o1 e' => ?_, fun j a o1 e' hj => ?_, fun j a o1 e' hj => ?_, fun c o1 e' q => ?_, Nat.le_trans D.more F.more, fun p hp => ⟨F.keep _ _ (D.xs p hp).1 (by simpa using (D.xs p hp).2 i b o e), fun j a o1 e' => ?_⟩⟩
  · rw [G] at e'
    by_cases hj : j = i
    · rw [if_pos hj] at e'; cases e'; exact ho
    · rw [if_neg hj] at e'
      exact F.keep _ _ (D.own j a o1 e') (by simpa using ne j a o1 hj e')
  · obtain ⟨_, e1⟩ := back _ _ _ e1
    obtain ⟨_, e2⟩ := back _ _ _ e2
    exact D.one _ _ _ _ _ e1 e2
  · obtain ⟨_, e'⟩ := back _ _ _ e'; exact D.off _ _ _ e'
  · have : a ≠ b := fun z => by have y := D.off i b o e; rw [← z, e'] at y; cases y
    exact F.keep _ _ (D.known a o1 e') (by simpa using this)
  · obtain ⟨_, e'⟩ := back _ _ _ e'; exact D.may _ _ _ e' hj
  · obtain ⟨_, e'⟩ := back _ _ _ e'; exact D.new _ _ _ e' hj
  · have hc : c ≠ b := by
      rintro rfl
      rcases hi with hi | hi
      · exact q (D.may i c o e hi)
      · have y := D.new i c o e hi
        rw [e'] at y; cases y
    exact F.keep _ _ (D.keep c o1 e' q) (by simpa using hc)
  · obtain ⟨o2, e'⟩ := back _ _ _ e'; exact (D.xs p hp).2 j a o2 e'
/-- all addresses of the ledger lie below n -/
noncomputable def Under (T : LT) (n : Nat) : Prop := ∀ i a o, T.get i = some (a, o) → a < n
theorem Rep.under {V : Ws} {h₀ h : Heap} {M : List Nat} {T : LT} {nx : Nat} (D : Rep V h₀ M T nx h) : Under T nx := fun _ _ _ e => D.lt e
theorem Under.put {T : LT} {n i b : Nat} {o o' : Obj} (U : Under T n) (e : T.get i = some (b, o)) : Under (T.put i b o') n := fun j a o1 e' => by
  rw [LT.get_put b o' T i (LT.get_put_some b o' T i (by rw [e]; rfl))] at e'
  by_cases hj : j = i
  · rw [if_pos hj] at e'; cases e'; exact U i _ _ e
  · rw [if_neg hj] at e'; exact U j a o1 e'
/-- a new object is written into the ledger; D the state ahead of the call, D' behind it -/
theorem Rep.fresh {V : Ws} {h₀ h h' : Heap} {M : List Nat} {T T' : LT} {nx nx' n b m : Nat} {o : Obj} (D : Rep V h₀ M T nx h) (D' : Rep V h₀ M T' nx' h') (U : Under T' n) (hn : n ≤ b) (hb : nx ≤ b) (ho : h'.get? b = some o)
    (hg2 : V.g1 ≤ V.g2) (hm2 : V.g2 ≤ m) (hg : ((T'.put m b o).get m).isSome = true) (hm : T'.get m = none) : Rep V h₀ M (T'.put m b o) nx' h' ∧ Under (T'.put m b o) (b + 1) := by
  have G := LT.get_put b o T' m hg
  have hm1 : ¬ m < V.g1 := Nat.not_lt.mpr (Nat.le_trans hg2 hm2)
  refine ⟨⟨D'.size, fun i a o1 e => ?_, fun i j a o1 o2 e1 e2 => ?_, fun i a o1 e => ?_, D'.known, fun i a o1 e hi => ?_, fun i a o1 e hi => ?_, D'.keep, D'.more, fun p hp => ⟨(D'.xs p hp).1, fun i a o1 e => ?_⟩⟩, fun i a o1 e => ?_⟩
  · rw [G] at e
    by_cases hi : i = m
    · rw [if_pos hi] at e; cases e; exact ho
    · rw [if_neg hi] at e; exact D'.own i a o1 e
  · rw [G] at e1 e2
    by_cases hi : i = m
    · by_cases hj : j = m
      · rw [hi, hj]
      · rw [if_pos hi] at e1; rw [if_neg hj] at e2; cases e1; exact absurd (U _ _ _ e2) (Nat.not_lt.mpr hn)
    · by_cases hj : j = m
      · rw [if_neg hi] at e1; rw [if_pos hj] at e2; cases e2; exact absurd (U _ _ _ e1) (Nat.not_lt.mpr hn)
      · rw [if_neg hi] at e1; rw [if_neg hj] at e2; exact D'.one _ _ _ _ _ e1 e2
  · rw [G] at e
    by_cases hi : i = m
    · rw [if_pos hi] at e; cases e; exact D.kfree hb
    · rw [if_neg hi] at e; exact D'.off i a o1 e
  · rw [G] at e
    by_cases hi' : i = m
    · exact absurd (hi' ▸ hi) hm1
    · rw [if_neg hi'] at e; exact D'.may i a o1 e hi
  · rw [G] at e
    by_cases hi' : i = m
    · rw [if_pos hi'] at e; cases e; exact D.fresh0 hb
    · rw [if_neg hi'] at e; exact D'.new i a o1 e hi
  · rw [G] at e
    by_cases hi' : i = m
    · rw [if_pos hi'] at e; cases e
      exact fun z => absurd (Nat.lt_of_lt_of_le (D.size ▸ Heap.lt_size (D.xs p hp).1) hb) (by rw [z]; exact Nat.lt_irrefl _)
    · rw [if_neg hi'] at e; exact (D'.xs p hp).2 i a o1 e
  · rw [G] at e
    by_cases hi : i = m
    · rw [if_pos hi] at e; cases e; exact Nat.lt_succ_self _
    · rw [if_neg hi] at e; exact Nat.lt_succ_of_lt (Nat.lt_of_lt_of_le (U i a o1 e) hn)

/-! ## built-ins whose answer hangs on what is not written -/
section
variable {prog : Program} {w : World} {A : Around} {s : Shared} {R : Result → Shared → Prop}
theorem code_entry {id : String} {b : Builtin} {args : List Value} (hk : builtinKind id = none) (hp : plainId id = true) (hb : entryFor table id = some b) (ha : argsOk id ⟨args, []⟩)
    (hc : wpAny (model prog w) A.in1 (b ⟨args, []⟩) (fun fin s' => ∃ v, fin = .done (.ret v) ∧ R (.ok (.ret v)) s') (fun e s' => R (.error e) s') s) : codeAny (model prog w) A (.call (.builtin id) ⟨args, []⟩) R s := by
  refine codeAny_call_builtin hp hb ?_
  have hfin := wpAny_mono hc (Q' := fun fin s' => match fin with
      | .done f => R (.ok f) s'
      | .again c' => c'.quiet = true ∧ codeAny (model prog w) A c' R s')
    (fun fin s' h' => by obtain ⟨v, rfl, hv⟩ := h'; exact hv) fun _ _ h' => h'
  simp only [checkBuiltinCall, hk]
  cases hsig : Manifest.signature? id with
  | none => exact wpAny_pure hfin
  | some sig =>
    simp only [argsOk, hsig] at ha
    have h2 : Bind.checkArgs id sig ⟨args, []⟩ = pure () := ha
    simp only [h2]
    exact wpAny_pure hfin
theorem code_slot {T : String} {name : Str} {id : String} {b : Builtin} {self : Value} {rest : List Value} (h : Slot T name id) (hT : s.TypeIs self T) (hb : entryFor table id = some b) (ha : argsOk id ⟨self :: rest, []⟩)
    (hc : wpAny (model prog w) A.in1 (b ⟨self :: rest, []⟩) (fun fin s' => ∃ v, fin = .done (.ret v) ∧ R (.ok (.ret v)) s') (fun e s' => R (.error e) s') s) : codeAny (model prog w) A (.call (.builtin id) ⟨self :: rest, []⟩) R s :=
  codeAny_call_builtin h.plain hb (h.check _ _ _ _ _ _ _ _ hT ha (wpAny_mono hc (fun fin s' h' => by obtain ⟨v, rfl, hv⟩ := h'; exact hv) fun _ _ h' => h'))
theorem c_len {l : Addr} {items : Array Value} (hl : s.heap.IsList l items) (hfit : (items.size : Int) < 2 ^ 63) (h : R (.ok (.ret (.int items.size (s.toks + 1)))) { s with toks := s.toks + 1 + 1 }) :
    codeAny (model prog w) A (.call (.builtin "len") ⟨[.ref l], []⟩) R s :=
  code_entry kind_len plain_len entry_len (args_len1 _) (wpAny_len_body_list (Q := fun v s' => R (.ok (.ret v)) s') hl hfit h)
theorem c_item {l : Addr} {items : Array Value} {k : Int} {t : Tok} {x : Value} (hl : s.heap.IsList l items) (h0 : 0 ≤ k) (hfit : k < 2 ^ 63) (hx : items[k.toNat]? = some x) (h : R (.ok (.ret x)) s) :
    codeAny (model prog w) A (.call (.builtin "list.__getitem__") ⟨[.ref l, .int k t], []⟩) R s := by
  obtain ⟨o, ho, hc, ne, hd⟩ := id hl
  refine code_slot slot_list_getitem hl.typeIs entry_list_getitem (args_list_getitem _ _) ?_
  show wpAny _ _ (Builtin.List.listSubscript? (.int k t) >>= _) _ _ s
  refine wpAny_bind (wpAny_listSubscript_int (fitsIndex_of h0 hfit) ?_)
  clear hfit
  obtain ⟨j, rfl⟩ := Int.eq_ofNat_of_zero_le h0
  have hx' : items[j]? = some x := hx
  show wpAny _ _ ((seqItemAt l j >>= fun r => pure (r.map (j, ·))) >>= _) _ _ s
  refine wpAny_bind (wpAny_bind (wpAny_seqItemAt ho hd (wpAny_pure ?_)))
  rw [hx']
  first
    | exact wpAny_bind (wpAny_pure (wpAny_pure ⟨x, rfl, h⟩))
    | exact wpAny_pure ⟨x, rfl, h⟩
end

/-! ## a contract's start -/
theorem enter {V : Wb} {c : Code} {T : LT} {m tk : Nat} (hA : V.A₀.depth ≤ V.dm) (hr : V.dm < recursionLimit) (D : Rep V.toWs V.h₀ V.M T V.h₀.objs.size V.h₀) (G : Go V ⟨c, [], dz c, T, m, V.h₀.objs.size, tk⟩) :
    codeAny (model V.prog V.w) V.A₀ c V.R₀ ⟨V.h₀, #[], V.d, tk, V.os⟩ := by
  rw [← dz_eq] at G
  exact y_code _ _ _ _ _ _ (denZ_ok (Nat.lt_of_le_of_lt hA hr) (G V.h₀ D))
/-- the known objects lie in h -/
noncomputable def Known (P : Params) (h : Heap) : Prop := ∀ a o, (kq P).get a = some o → h.get? a = some o
theorem Known.aft {P : Params} {h h' : Heap} {M : List Nat} (K : Known P h) (F : Aft h h' M) (hM : ∀ a ∈ M, (kq P).get a = none) : Known P h' := fun a o e => F.keep a o (K a o e) fun hm => by have := hM a hm; rw [e] at this; cases this
noncomputable def lst (vs : List Value) (n : Nat) : Obj := { cls := .type "list", data := .seq ⟨vs⟩ n }
theorem lst_is {h : Heap} {a : Addr} {vs : List Value} {n : Nat} (e : h.get? a = some (lst vs n)) : h.IsList a vs.toArray := ⟨_, e, rfl, n, rfl⟩
noncomputable def tup (vs : List Value) : Obj := { cls := .type "tuple", data := .seq ⟨vs⟩ 0 }
theorem depth_le {a b n : Nat} (e : a = b) (h : b ≤ n) : a ≤ n := e ▸ h
/-- two objects in the ledger -/
noncomputable def T2 (a : Nat) (o : Obj) (b : Nat) (x : Obj) : LT := .node a o (.node b x .nil .nil) .nil
theorem T2_get {a b : Nat} {o x : Obj} {i c : Nat} {y : Obj} (e : (T2 a o b x).get i = some (c, y)) : (i = 0 ∧ c = a ∧ y = o) ∨ (i = 1 ∧ c = b ∧ y = x) := by
  unfold T2 at e
  rw [LT.get_node] at e
  by_cases h0 : i = 0
  · rw [if_pos h0] at e; cases e; exact .inl ⟨h0, rfl, rfl⟩
  · rw [if_neg h0] at e
    by_cases h1 : i % 2 = 1
    · rw [if_pos h1, LT.get_node] at e
      by_cases h2 : i / 2 = 0
      · rw [if_pos h2] at e; cases e; exact .inr ⟨by omega, rfl, rfl⟩
      · rw [if_neg h2] at e; simp [LT.get_nil] at e
    · rw [if_neg h1] at e; cases e
theorem start2 {V : Ws} {h : Heap} {a b : Nat} {o x : Obj} (K : ∀ c y, V.kt.get c = some y → h.get? c = some y) (ha : h.get? a = some o) (hb : h.get? b = some x) (ne : a ≠ b) (ka : V.kt.get a = none) (kb : V.kt.get b = none)
    (h1 : V.g1 = 1) (h2 : V.g2 = 2) (hx : V.ex = [] := by rfl) : Rep V h [a] (T2 a o b x) h.objs.size h := by
  refine Rep.start K ?_ ?_ ?_ ?_ ?_ hx
  · intro i c y e
    rcases T2_get e with ⟨_, rfl, rfl⟩ | ⟨_, rfl, rfl⟩ <;> assumption
  · intro i j c y y' e e'
    rcases T2_get e with ⟨rfl, rfl, rfl⟩ | ⟨rfl, rfl, rfl⟩ <;> rcases T2_get e' with ⟨rfl, q, rfl⟩ | ⟨rfl, q, rfl⟩ <;> first | rfl | exact absurd q ne | exact absurd q.symm ne
  · intro i c y e
    rcases T2_get e with ⟨_, rfl, rfl⟩ | ⟨_, rfl, rfl⟩ <;> assumption
  · intro i c y e hi
    rw [h1] at hi
    rcases T2_get e with ⟨_, rfl, rfl⟩ | ⟨rfl, rfl, rfl⟩
    · exact .head _
    · omega
  · intro i c y e
    rw [h2]
    rcases T2_get e with ⟨rfl, _, _⟩ | ⟨rfl, _, _⟩ <;> decide
end Mine
end
section
namespace Mine
/-- the cells: ints from nought on -/
noncomputable def Cells (vs : List Value) : Prop := ∀ v ∈ vs, ∃ (k : Nat) (t : Nat), v = .int (.ofNat k) t
/-- _law_next(feed, many): a number below many; the turn one on -/
noncomputable def NextSpec (w : World) : Prop := ∀ (A : Around) (h : Heap) (fa ca : Nat) (turn : Int) (many tu tm n1 n2 t0 : Nat) (vs : List Value) (d : Drawn) (os : OsState) (R : Result → Shared → Prop),
  A.handled = none → A.depth ≤ 600 → Known w.params h → h.get? fa = some (lst [.ref ca, .int turn tu] n1) → h.get? ca = some (lst vs n2) → fa ≠ ca → (kq w.params).get fa = none → (kq w.params).get ca = none →
  Cells vs → vs.length ≤ 63 → 0 ≤ turn → turn ≤ 1000 →
  (∀ (r : Nat) (tr tu' : Nat) (h' : Heap) (t' : Nat), r < many + 1 → h'.get? fa = some (lst [.ref ca, .int (turn + 1) tu'] n1) → Aft h h' [fa] → R (.ok (.ret (.int (.ofNat r) tr))) ⟨h', #[], d, t', os⟩) →
  codeAny (model PySem.Challenge.pw_pf0369_01 w) A (.call (.ref 326) ⟨[.ref fa, .int (.ofNat (many + 1)) tm], []⟩) R ⟨h, #[], d, t0, os⟩
noncomputable def nextV (w : World) (dp un : Nat) (fr : Option (List Env)) (gu : Option (List Code)) (h : Heap) (M : List Nat) (R : Result → Shared → Prop) (d : Drawn) (os : OsState) : Wb :=
  ⟨⟨PySem.Challenge.pw_pf0369_01, w, ⟨none, dp, fr, gu, un⟩, 600, 1, 2, kq w.params, []⟩, h, M, R, d, os⟩
theorem fmod_nat (x : Int) (m : Nat) : ∃ r : Nat, Int.fmod x (.ofNat (m + 1)) = .ofNat r ∧ r < m + 1 := by
  have h1 : 0 ≤ Int.fmod x (.ofNat (m + 1)) := Int.fmod_nonneg_of_pos x (by show (0 : Int) < ((m + 1 : Nat) : Int); omega)
  have h2 : Int.fmod x (.ofNat (m + 1)) < ((m + 1 : Nat) : Int) := Int.fmod_lt_of_pos x (by show (0 : Int) < ((m + 1 : Nat) : Int); omega)
  obtain ⟨r, hr⟩ := Int.eq_ofNat_of_zero_le h1
  exact ⟨r, hr, by omega⟩
set_option maxHeartbeats 4000000 in
theorem next_spec : ∀ w, NextSpec w := by
  refine worlds (fun w => ?_) (fun w => ?_)
  all_goals
    intro A h fa ca turn many tu tm n1 n2 t0 vs d os R hA hd K hf hc ne kf kc hv hl h0 h1 post
    obtain ⟨ha, dp, fr, gu, un⟩ := A
    cases hA
    have hA' : dp ≤ 600 := hd
    refine enter (V := nextV _ dp un fr gu h [fa] R d os) (T := T2 fa (lst [.ref ca, .int turn tu] n1) ca (lst vs n2)) (m := 2) hA' (by show 600 < 1000; decide) ?_ ?_
    · exact start2 (V := (nextV _ dp un fr gu h [fa] R d os).toWs) K hf hc ne kf kc rfl rfl
    · refine seg hA' (by show 1 ≤ 2; decide) 108 8722064756574119018253608953295907822909399231805392515702995890287057050468969629035354018934415979386239924536672891901680537372983296 (by kernel_rfl) (by kernel_rfl) ?_
      refine Go.callP (.call (.builtin "len") ⟨[.ref ca], []⟩) none (by kernel_rfl) rfl (fun tk => .ok (.ret (.int vs.length (tk + 1)))) 2 (fun h2 R D post => c_len (lst_is (D.own 1 ca (lst vs n2) (by kernel_rfl))) (by show (vs.length : Int) < 2 ^ 63; omega) post) ?_
      refine seg hA' (by show 1 ≤ 2; decide) 5 0 (by kernel_rfl) (by kernel_rfl) ?_
      by_cases hlt : turn < (vs.length : Int)
      · refine Go.tree (.pure (.done (.ret (.bool true)))) (Eq.trans (b := .pure (.done (.ret (.bool (decide (turn < (vs.length : Int))))))) (by kernel_rfl) (by rw [decide_eq_true hlt])) ?_
        refine seg hA' (by show 1 ≤ 2; decide) 9 137707914755 (by kernel_rfl) (by kernel_rfl) ?_
        obtain ⟨j, rfl⟩ := Int.eq_ofNat_of_zero_le h0
        have hj : j < vs.length := by omega
        obtain ⟨k, tk, hk⟩ := hv _ (List.getElem_mem hj)
        refine Go.callP (.call (.builtin "list.__getitem__") ⟨[.ref ca, .int (Int.ofNat j) tu], []⟩) none (by kernel_rfl) rfl (fun _ => .ok (.ret (.int (.ofNat k) tk))) 0 (fun h2 R D post => c_item (lst_is (D.own 1 ca (lst vs n2) (by kernel_rfl))) h0 (by show (j : Int) < 2 ^ 63; omega) (by rw [← hk]; simpa using List.getElem?_eq_getElem hj) post) ?_
        refine seg hA' (by show 1 ≤ 2; decide) 7 3 (by kernel_rfl) (by kernel_rfl) ?_
        refine Go.doneI (Int.fmod (.ofNat k) (.ofNat (many + 1))) (by kernel_rfl) (by kernel_rfl) ?_
        intro h' tr D
        obtain ⟨r, hr, hlt⟩ := fmod_nat (.ofNat k) many
        rw [hr]
        exact post r tr (t0 + 5) h' _ hlt (D.own 0 fa (lst [.ref ca, .int (Int.ofNat j + 1) (t0 + 5)] n1) (by kernel_rfl)) D.aft
      · refine Go.tree (.pure (.done (.ret (.bool false)))) (Eq.trans (b := .pure (.done (.ret (.bool (decide (turn < (vs.length : Int))))))) (by kernel_rfl) (by rw [decide_eq_false hlt])) ?_
        refine seg hA' (by show 1 ≤ 2; decide) 35 787971 (by kernel_rfl) (by kernel_rfl) ?_
        refine Go.doneI (Int.fmod (5 * turn + Int.fdiv turn 4 + 1) (.ofNat (many + 1))) (by kernel_rfl) (by kernel_rfl) ?_
        intro h' tr D
        obtain ⟨r, hr, hlt⟩ := fmod_nat (5 * turn + Int.fdiv turn 4 + 1) many
        rw [hr]
        exact post r tr (t0 + 5) h' _ hlt (D.own 0 fa (lst [.ref ca, .int (turn + 1) (t0 + 5)] n1) (by kernel_rfl)) D.aft
end Mine
end
section
namespace Mine
/-- the values that _law_told draws from -/
noncomputable def tStr : Nat → List Nat
  | 1 => [48, 48] | 2 => [43, 48] | 3 => [45, 48] | 4 => [] | 5 => [45, 48, 48] | 7 => [45, 51] | 8 => [43, 48, 55] | 9 => [120] | 10 => [49, 32] | 11 => [45, 45, 49] | _ => [43]
noncomputable def tv (r t pa : Nat) : Value := match r with
  | 0 => .int 0 t
  | 6 => .int 3 t
  | 12 => .ref pa
  | r => .str ⟨⟨tStr r⟩⟩ t
noncomputable def tn (r u : Nat) : Value := match r with
  | 0 | 1 | 2 | 3 | 4 | 5 => .int 0 u
  | 6 => .int 3 u
  | 7 => .int (-3) u
  | 8 => .int 7 u
  | _ => .none
noncomputable def pat (da : Nat) : Obj := ⟨.ref 54, some da, .plain, ⟨[]⟩⟩
/-- _law_told(feed): a pair out of the fourteen -/
noncomputable def ToldSpec (w : World) : Prop := ∀ (A : Around) (h : Heap) (fa ca : Nat) (turn : Int) (tu n1 n2 t0 : Nat) (vs : List Value) (d : Drawn) (os : OsState) (R : Result → Shared → Prop),
  A.handled = none → A.depth ≤ 590 → Known w.params h → h.get? fa = some (lst [.ref ca, .int turn tu] n1) → h.get? ca = some (lst vs n2) → fa ≠ ca → (kq w.params).get fa = none → (kq w.params).get ca = none →
  Cells vs → vs.length ≤ 63 → 0 ≤ turn → turn ≤ 1000 →
  (∀ (r t u pa da ta tu' : Nat) (h' : Heap) (t' : Nat), r < 14 → h.objs.size ≤ ta → h'.get? ta = some (tup [tv r t pa, tn r u]) → (r = 12 → h.objs.size ≤ pa ∧ pa < ta ∧ h'.get? pa = some (pat da)) →
    h'.get? fa = some (lst [.ref ca, .int (turn + 1) tu'] n1) → Aft h h' [fa] → R (.ok (.ret (.ref ta))) ⟨h', #[], d, t', os⟩) →
  codeAny (model PySem.Challenge.pw_pf0369_01 w) A (.call (.ref 333) ⟨[.ref fa], []⟩) R ⟨h, #[], d, t0, os⟩
set_option maxHeartbeats 4000000 in
theorem told_spec : ∀ w, ToldSpec w := by
  refine worlds (fun w => ?_) (fun w => ?_)
  all_goals
    intro A h fa ca turn tu n1 n2 t0 vs d os R hA hd K hf hc ne kf kc hv hl h0 h1 post
    obtain ⟨ha, dp, fr, gu, un⟩ := A
    cases hA
    have hA' : dp ≤ 590 := hd
    have hA' : dp ≤ 600 := by omega
    refine enter (V := nextV _ dp un fr gu h [fa] R d os) (T := T2 fa (lst [.ref ca, .int turn tu] n1) ca (lst vs n2)) (m := 2) hA' (by show 600 < 1000; decide) ?_ ?_
    · exact start2 (V := (nextV _ dp un fr gu h [fa] R d os).toWs) K hf hc ne kf kc rfl rfl
    · refine seg hA' (by show 1 ≤ 2; decide) 184 3503967787017142176666833790937543381040338803257228804687442497996698319753761652326248495598488408615708663028273231432687712495151564582765784082315673228133702491791438009581637114801498619904 (by kernel_rfl) (by kernel_rfl) ?_
      refine Go.call (.call (.ref 326) ⟨[.ref fa, .int (.ofNat 14) (t0 + 31)], []⟩) none (by kernel_rfl) rfl ?_
      intro h2 D
      have K2 : Known _ h2 := D.known
      refine next_spec _ _ h2 fa ca turn 13 tu _ n1 n2 _ vs d os _ (by kernel_rfl) (depth_le (b := dp + 1) (by kernel_rfl) (by omega)) K2 (D.own 0 fa (lst [.ref ca, .int turn tu] n1) (by kernel_rfl)) (D.own 1 ca (lst vs n2) (by kernel_rfl)) ne kf kc hv hl h0 h1 ?_
      intro r tr tu' h3 t3 hr hf3 F
      refine Go.from 22 ?_ (D.step1 (i := 0) (o := lst [.ref ca, .int turn tu] n1) (by kernel_rfl) F hf3 (.inl (by show 0 < 1; decide)))
      rcases (by omega : r = 0 ∨ r = 1 ∨ r = 2 ∨ r = 3 ∨ r = 4 ∨ r = 5 ∨ r = 6 ∨ r = 7 ∨ r = 8 ∨ r = 9 ∨ r = 10 ∨ r = 11 ∨ r = 12 ∨ r = 13) with rfl | rfl | rfl | rfl | rfl | rfl | rfl | rfl | rfl | rfl | rfl | rfl | rfl | rfl
      · refine seg hA' (by show 1 ≤ 2; decide) 10 1514787056662 (by kernel_rfl) (by kernel_rfl) ?_
        refine Go.done (.ret (.ref (h.objs.size + 1))) (by kernel_rfl) (by kernel_rfl) ?_
        intro h' D
        exact post 0 (t0 + 1) (t0 + 2) 0 0 (h.objs.size + 1) tu' h' _ (by decide) (Nat.le_add_right _ _) (D.own 3 (h.objs.size + 1) (tup [tv 0 (t0 + 1) 0, tn 0 (t0 + 2)]) (by kernel_rfl)) (fun e => absurd e (by decide)) (D.own 0 fa (lst [.ref ca, .int (turn + 1) tu'] n1) (by kernel_rfl)) D.aft
      · refine seg hA' (by show 1 ≤ 2; decide) 10 1514787056662 (by kernel_rfl) (by kernel_rfl) ?_
        refine Go.done (.ret (.ref (h.objs.size + 2))) (by kernel_rfl) (by kernel_rfl) ?_
        intro h' D
        exact post 1 (t0 + 3) (t0 + 4) 0 0 (h.objs.size + 2) tu' h' _ (by decide) (Nat.le_add_right _ _) (D.own 4 (h.objs.size + 2) (tup [tv 1 (t0 + 3) 0, tn 1 (t0 + 4)]) (by kernel_rfl)) (fun e => absurd e (by decide)) (D.own 0 fa (lst [.ref ca, .int (turn + 1) tu'] n1) (by kernel_rfl)) D.aft
      · refine seg hA' (by show 1 ≤ 2; decide) 10 1514787056662 (by kernel_rfl) (by kernel_rfl) ?_
        refine Go.done (.ret (.ref (h.objs.size + 3))) (by kernel_rfl) (by kernel_rfl) ?_
        intro h' D
        exact post 2 (t0 + 5) (t0 + 6) 0 0 (h.objs.size + 3) tu' h' _ (by decide) (Nat.le_add_right _ _) (D.own 5 (h.objs.size + 3) (tup [tv 2 (t0 + 5) 0, tn 2 (t0 + 6)]) (by kernel_rfl)) (fun e => absurd e (by decide)) (D.own 0 fa (lst [.ref ca, .int (turn + 1) tu'] n1) (by kernel_rfl)) D.aft
      · refine seg hA' (by show 1 ≤ 2; decide) 10 1514787056662 (by kernel_rfl) (by kernel_rfl) ?_
        refine Go.done (.ret (.ref (h.objs.size + 4))) (by kernel_rfl) (by kernel_rfl) ?_
        intro h' D
        exact post 3 (t0 + 7) (t0 + 8) 0 0 (h.objs.size + 4) tu' h' _ (by decide) (Nat.le_add_right _ _) (D.own 6 (h.objs.size + 4) (tup [tv 3 (t0 + 7) 0, tn 3 (t0 + 8)]) (by kernel_rfl)) (fun e => absurd e (by decide)) (D.own 0 fa (lst [.ref ca, .int (turn + 1) tu'] n1) (by kernel_rfl)) D.aft
      · refine seg hA' (by show 1 ≤ 2; decide) 10 1514787056662 (by kernel_rfl) (by kernel_rfl) ?_
        refine Go.done (.ret (.ref (h.objs.size + 5))) (by kernel_rfl) (by kernel_rfl) ?_
        intro h' D
        exact post 4 (t0 + 9) (t0 + 10) 0 0 (h.objs.size + 5) tu' h' _ (by decide) (Nat.le_add_right _ _) (D.own 7 (h.objs.size + 5) (tup [tv 4 (t0 + 9) 0, tn 4 (t0 + 10)]) (by kernel_rfl)) (fun e => absurd e (by decide)) (D.own 0 fa (lst [.ref ca, .int (turn + 1) tu'] n1) (by kernel_rfl)) D.aft
      · refine seg hA' (by show 1 ≤ 2; decide) 10 1514787056662 (by kernel_rfl) (by kernel_rfl) ?_
        refine Go.done (.ret (.ref (h.objs.size + 6))) (by kernel_rfl) (by kernel_rfl) ?_
        intro h' D
        exact post 5 (t0 + 11) (t0 + 12) 0 0 (h.objs.size + 6) tu' h' _ (by decide) (Nat.le_add_right _ _) (D.own 8 (h.objs.size + 6) (tup [tv 5 (t0 + 11) 0, tn 5 (t0 + 12)]) (by kernel_rfl)) (fun e => absurd e (by decide)) (D.own 0 fa (lst [.ref ca, .int (turn + 1) tu'] n1) (by kernel_rfl)) D.aft
      · refine seg hA' (by show 1 ≤ 2; decide) 10 1514787056662 (by kernel_rfl) (by kernel_rfl) ?_
        refine Go.done (.ret (.ref (h.objs.size + 7))) (by kernel_rfl) (by kernel_rfl) ?_
        intro h' D
        exact post 6 (t0 + 13) (t0 + 14) 0 0 (h.objs.size + 7) tu' h' _ (by decide) (Nat.le_add_right _ _) (D.own 9 (h.objs.size + 7) (tup [tv 6 (t0 + 13) 0, tn 6 (t0 + 14)]) (by kernel_rfl)) (fun e => absurd e (by decide)) (D.own 0 fa (lst [.ref ca, .int (turn + 1) tu'] n1) (by kernel_rfl)) D.aft
      · refine seg hA' (by show 1 ≤ 2; decide) 10 1514787056662 (by kernel_rfl) (by kernel_rfl) ?_
        refine Go.done (.ret (.ref (h.objs.size + 8))) (by kernel_rfl) (by kernel_rfl) ?_
        intro h' D
        exact post 7 (t0 + 15) (t0 + 18) 0 0 (h.objs.size + 8) tu' h' _ (by decide) (Nat.le_add_right _ _) (D.own 10 (h.objs.size + 8) (tup [tv 7 (t0 + 15) 0, tn 7 (t0 + 18)]) (by kernel_rfl)) (fun e => absurd e (by decide)) (D.own 0 fa (lst [.ref ca, .int (turn + 1) tu'] n1) (by kernel_rfl)) D.aft
      · refine seg hA' (by show 1 ≤ 2; decide) 10 1514787056662 (by kernel_rfl) (by kernel_rfl) ?_
        refine Go.done (.ret (.ref (h.objs.size + 9))) (by kernel_rfl) (by kernel_rfl) ?_
        intro h' D
        exact post 8 (t0 + 19) (t0 + 20) 0 0 (h.objs.size + 9) tu' h' _ (by decide) (Nat.le_add_right _ _) (D.own 11 (h.objs.size + 9) (tup [tv 8 (t0 + 19) 0, tn 8 (t0 + 20)]) (by kernel_rfl)) (fun e => absurd e (by decide)) (D.own 0 fa (lst [.ref ca, .int (turn + 1) tu'] n1) (by kernel_rfl)) D.aft
      · refine seg hA' (by show 1 ≤ 2; decide) 10 1514787056662 (by kernel_rfl) (by kernel_rfl) ?_
        refine Go.done (.ret (.ref (h.objs.size + 10))) (by kernel_rfl) (by kernel_rfl) ?_
        intro h' D
        exact post 9 (t0 + 21) (t0 + 0) 0 0 (h.objs.size + 10) tu' h' _ (by decide) (Nat.le_add_right _ _) (D.own 12 (h.objs.size + 10) (tup [tv 9 (t0 + 21) 0, tn 9 (t0 + 0)]) (by kernel_rfl)) (fun e => absurd e (by decide)) (D.own 0 fa (lst [.ref ca, .int (turn + 1) tu'] n1) (by kernel_rfl)) D.aft
      · refine seg hA' (by show 1 ≤ 2; decide) 10 1514787056662 (by kernel_rfl) (by kernel_rfl) ?_
        refine Go.done (.ret (.ref (h.objs.size + 11))) (by kernel_rfl) (by kernel_rfl) ?_
        intro h' D
        exact post 10 (t0 + 22) (t0 + 0) 0 0 (h.objs.size + 11) tu' h' _ (by decide) (Nat.le_add_right _ _) (D.own 13 (h.objs.size + 11) (tup [tv 10 (t0 + 22) 0, tn 10 (t0 + 0)]) (by kernel_rfl)) (fun e => absurd e (by decide)) (D.own 0 fa (lst [.ref ca, .int (turn + 1) tu'] n1) (by kernel_rfl)) D.aft
      · refine seg hA' (by show 1 ≤ 2; decide) 10 1514787056662 (by kernel_rfl) (by kernel_rfl) ?_
        refine Go.done (.ret (.ref (h.objs.size + 12))) (by kernel_rfl) (by kernel_rfl) ?_
        intro h' D
        exact post 11 (t0 + 23) (t0 + 0) 0 0 (h.objs.size + 12) tu' h' _ (by decide) (Nat.le_add_right _ _) (D.own 14 (h.objs.size + 12) (tup [tv 11 (t0 + 23) 0, tn 11 (t0 + 0)]) (by kernel_rfl)) (fun e => absurd e (by decide)) (D.own 0 fa (lst [.ref ca, .int (turn + 1) tu'] n1) (by kernel_rfl)) D.aft
      · refine seg hA' (by show 1 ≤ 2; decide) 10 1514787056662 (by kernel_rfl) (by kernel_rfl) ?_
        refine Go.done (.ret (.ref (h.objs.size + 17))) (by kernel_rfl) (by kernel_rfl) ?_
        intro h' D
        exact post 12 0 0 (h.objs.size + 15) (h.objs.size + 14) (h.objs.size + 17) tu' h' _ (by decide) (Nat.le_add_right _ _) (D.own 19 (h.objs.size + 17) (tup [tv 12 0 (h.objs.size + 15), tn 12 0]) (by kernel_rfl)) (fun _ => ⟨Nat.le_add_right _ _, by omega, D.own 17 (h.objs.size + 15) (pat (h.objs.size + 14)) (by kernel_rfl)⟩) (D.own 0 fa (lst [.ref ca, .int (turn + 1) tu'] n1) (by kernel_rfl)) D.aft
      · refine seg hA' (by show 1 ≤ 2; decide) 10 1514787056662 (by kernel_rfl) (by kernel_rfl) ?_
        refine Go.done (.ret (.ref (h.objs.size + 18))) (by kernel_rfl) (by kernel_rfl) ?_
        intro h' D
        exact post 13 (t0 + 29) (t0 + 0) 0 0 (h.objs.size + 18) tu' h' _ (by decide) (Nat.le_add_right _ _) (D.own 20 (h.objs.size + 18) (tup [tv 13 (t0 + 29) 0, tn 13 (t0 + 0)]) (by kernel_rfl)) (fun e => absurd e (by decide)) (D.own 0 fa (lst [.ref ca, .int (turn + 1) tu'] n1) (by kernel_rfl)) D.aft
end Mine
end
section
namespace Mine
/-- to_whole(value, 32), by the fourteen values -/
noncomputable def WholeSpec (w : World) : Prop := ∀ (A : Around) (h : Heap) (r t pa da tw t0 : Nat) (d : Drawn) (os : OsState) (R : Result → Shared → Prop),
  A.handled = none → A.depth ≤ 590 → Known w.params h → r < 14 → (r = 12 → h.get? pa = some (pat da) ∧ (kq w.params).get pa = none) →
  (∀ (u : Nat) (h' : Heap) (t' : Nat), Aft h h' [] → R (.ok (.ret (tn r u))) ⟨h', #[], d, t', os⟩) →
  codeAny (model PySem.Challenge.pw_pf0369_01 w) A (.call (.ref 177) ⟨[tv r t pa, .int 32 tw], []⟩) R ⟨h, #[], d, t0, os⟩
noncomputable def wholeV (w : World) (dp un : Nat) (fr : Option (List Env)) (gu : Option (List Code)) (g : Nat) (h : Heap) (R : Result → Shared → Prop) (d : Drawn) (os : OsState) : Wb :=
  ⟨⟨PySem.Challenge.pw_pf0369_01, w, ⟨none, dp, fr, gu, un⟩, 600, 0, g, kq w.params, []⟩, h, [], R, d, os⟩
theorem start0 {V : Ws} {h : Heap} (K : ∀ c y, V.kt.get c = some y → h.get? c = some y) (hx : V.ex = [] := by rfl) : Rep V h [] .nil h.objs.size h :=
  Rep.start K (fun i a o e => by cases e) (fun i j a o o' e => by cases e) (fun i a o e => by cases e) (fun i a o e => by cases e) (fun i a o e => by cases e) hx
theorem start1 {V : Ws} {h : Heap} {a : Nat} {o : Obj} (K : ∀ c y, V.kt.get c = some y → h.get? c = some y) (ha : h.get? a = some o) (ka : V.kt.get a = none) (h1 : V.g1 = 0) (h2 : V.g2 = 1) (hx : V.ex = [] := by rfl) : Rep V h [] (.node a o .nil .nil) h.objs.size h := by
  have key : ∀ {i c y}, (LT.node a o .nil .nil).get i = some (c, y) → i = 0 ∧ c = a ∧ y = o := fun {i c y} e => by
    rw [LT.get_node] at e
    by_cases h0 : i = 0
    · rw [if_pos h0] at e; cases e; exact ⟨h0, rfl, rfl⟩
    · rw [if_neg h0] at e
      by_cases p : i % 2 = 1 <;> simp [p, LT.get_nil] at e
  refine Rep.start K (fun i c y e => ?_) (fun i j c y y' e e' => ?_) (fun i c y e => ?_) (fun i c y e hi => ?_) (fun i c y e => ?_) hx
  · obtain ⟨_, rfl, rfl⟩ := key e; exact ha
  · rw [(key e).1, (key e').1]
  · obtain ⟨_, rfl, rfl⟩ := key e; exact ka
  · rw [h1] at hi; exact absurd hi (Nat.not_lt_zero _)
  · rw [(key e).1, h2]; exact Nat.zero_lt_one
theorem whole_spec : ∀ w, WholeSpec w := by
  refine worlds (fun w => ?_) (fun w => ?_)
  all_goals
    intro A h r t pa da tw t0 d os R hA hd K hr hp post
    obtain ⟨ha, dp, fr, gu, un⟩ := A
    cases hA
    have hA' : dp ≤ 600 := Nat.le_trans hd (by decide)
    rcases (by omega : r = 0 ∨ r = 1 ∨ r = 2 ∨ r = 3 ∨ r = 4 ∨ r = 5 ∨ r = 6 ∨ r = 7 ∨ r = 8 ∨ r = 9 ∨ r = 10 ∨ r = 11 ∨ r = 12 ∨ r = 13) with rfl | rfl | rfl | rfl | rfl | rfl | rfl | rfl | rfl | rfl | rfl | rfl | rfl | rfl
    · refine enter (V := wholeV _ dp un fr gu 0 h R d os) (T := .nil) (m := 0) hA' (by show 600 < 1000; decide) (start0 K) ?_
      refine seg hA' (by show 0 ≤ 0; decide) 34 324518556076278366047667596034048 (by kernel_rfl) (by kernel_rfl) ?_
      exact Go.doneI 0 (by kernel_rfl) (by kernel_rfl) fun h' u D => post u h' _ D.aft
    · refine enter (V := wholeV _ dp un fr gu 0 h R d os) (T := .nil) (m := 0) hA' (by show 600 < 1000; decide) (start0 K) ?_
      refine seg hA' (by show 0 ≤ 0; decide) 427 126694694653390996734867042688720702676958677098817170342857567389867232023043711567896673602266900497824531466644457781489341128472740353380363091301047479450436678500535297378923867194879357166723534566187047332864083140292048419877189472777874523917507413409792 (by kernel_rfl) (by kernel_rfl) ?_
      exact Go.doneI 0 (by kernel_rfl) (by kernel_rfl) fun h' u D => post u h' _ D.aft
    · refine enter (V := wholeV _ dp un fr gu 0 h R d os) (T := .nil) (m := 0) hA' (by show 600 < 1000; decide) (start0 K) ?_
      refine seg hA' (by show 0 ≤ 0; decide) 366 200083427556523523860778488037669498512038583212830457524784552308509216911778903474426672452069424252039831457913636717947409897760424407631817085760303026526270667752047578184031409270867553344581320289074638089587041092324051648512 (by kernel_rfl) (by kernel_rfl) ?_
      exact Go.doneI 0 (by kernel_rfl) (by kernel_rfl) fun h' u D => post u h' _ D.aft
    · refine enter (V := wholeV _ dp un fr gu 0 h R d os) (T := .nil) (m := 0) hA' (by show 600 < 1000; decide) (start0 K) ?_
      refine seg hA' (by show 0 ≤ 0; decide) 371 200083427556523523860778488037669498512038583212830457524784552308509216911778903474426672452069424252039831457913636717947409897760424407631817085760303026526270667752047578184031409270867553344581320289074638089587041092324051648512 (by kernel_rfl) (by kernel_rfl) ?_
      exact Go.doneI 0 (by kernel_rfl) (by kernel_rfl) fun h' u D => post u h' _ D.aft
    · refine enter (V := wholeV _ dp un fr gu 0 h R d os) (T := .nil) (m := 0) hA' (by show 600 < 1000; decide) (start0 K) ?_
      refine seg hA' (by show 0 ≤ 0; decide) 93 14474066476686121380535679456708681646701729334580975200484675093414927400960 (by kernel_rfl) (by kernel_rfl) ?_
      exact Go.doneI 0 (by kernel_rfl) (by kernel_rfl) fun h' u D => post u h' _ D.aft
    · refine enter (V := wholeV _ dp un fr gu 0 h R d os) (T := .nil) (m := 0) hA' (by show 600 < 1000; decide) (start0 K) ?_
      refine seg hA' (by show 0 ≤ 0; decide) 443 8714862375755257314866349810772065619186542526934477089388196905513166239249175822041037138101384755071804122228965977597803243216959790031955864472345270139710915566494255424376952965305442889447018107509251282721667835514730768732739044225677203017618673417950210973499392 (by kernel_rfl) (by kernel_rfl) ?_
      exact Go.doneI 0 (by kernel_rfl) (by kernel_rfl) fun h' u D => post u h' _ D.aft
    · refine enter (V := wholeV _ dp un fr gu 0 h R d os) (T := .nil) (m := 0) hA' (by show 600 < 1000; decide) (start0 K) ?_
      refine seg hA' (by show 0 ≤ 0; decide) 34 324518556076278366047667596034048 (by kernel_rfl) (by kernel_rfl) ?_
      exact Go.doneI 3 (by kernel_rfl) (by kernel_rfl) fun h' u D => post u h' _ D.aft
    · refine enter (V := wholeV _ dp un fr gu 0 h R d os) (T := .nil) (m := 0) hA' (by show 600 < 1000; decide) (start0 K) ?_
      refine seg hA' (by show 0 ≤ 0; decide) 371 200083427556523523860778488037669498512038583212830457524784552308509216911778903474426672452069424252039831457913636717947409897760424407631817085760303026526270667752047578184031409270867553344581320289074638089587041092324051648512 (by kernel_rfl) (by kernel_rfl) ?_
      exact Go.doneI (-3) (by kernel_rfl) (by kernel_rfl) fun h' u D => post u h' _ D.aft
    · refine enter (V := wholeV _ dp un fr gu 0 h R d os) (T := .nil) (m := 0) hA' (by show 600 < 1000; decide) (start0 K) ?_
      refine seg hA' (by show 0 ≤ 0; decide) 438 8714862375755257314866349810772065619186542526934477089388196905513166239249175822041037138101384755071804122228965977597803243216959790031955864472345270139710915566494255424376952965305442889447018107509251282721667835514730768732739044225677203017618673417950210973499392 (by kernel_rfl) (by kernel_rfl) ?_
      exact Go.doneI 7 (by kernel_rfl) (by kernel_rfl) fun h' u D => post u h' _ D.aft
    · refine enter (V := wholeV _ dp un fr gu 0 h R d os) (T := .nil) (m := 0) hA' (by show 600 < 1000; decide) (start0 K) ?_
      refine seg hA' (by show 0 ≤ 0; decide) 201 5826088895901144031650273491625184945018745328996438643264749828593912724755684568734799260410572520840330947561217161925778927253716992 (by kernel_rfl) (by kernel_rfl) ?_
      exact Go.done (.ret .none) (by kernel_rfl) (by kernel_rfl) fun h' D => post 0 h' _ D.aft
    · refine enter (V := wholeV _ dp un fr gu 0 h R d os) (T := .nil) (m := 0) hA' (by show 600 < 1000; decide) (start0 K) ?_
      refine seg hA' (by show 0 ≤ 0; decide) 267 253761960881796908670587107654895328509105703491646824545081754760793709336413415946093098436652769544165611161226920335654835087095978270487377333690327889355413806954620125184 (by kernel_rfl) (by kernel_rfl) ?_
      exact Go.done (.ret .none) (by kernel_rfl) (by kernel_rfl) fun h' D => post 0 h' _ D.aft
    · refine enter (V := wholeV _ dp un fr gu 0 h R d os) (T := .nil) (m := 0) hA' (by show 600 < 1000; decide) (start0 K) ?_
      refine seg hA' (by show 0 ≤ 0; decide) 206 400365781835225344833277764414396237134868427204056398278590303129506831528525487759719181922472557317053881077971043338603980863204310405477564416 (by kernel_rfl) (by kernel_rfl) ?_
      exact Go.done (.ret .none) (by kernel_rfl) (by kernel_rfl) fun h' D => post 0 h' _ D.aft
    · obtain ⟨hp1, hp2⟩ := hp rfl
      refine enter (V := wholeV _ dp un fr gu 1 h R d os) (T := .node pa (pat da) .nil .nil) (m := 1) hA' (by show 600 < 1000; decide) (start1 K hp1 hp2 rfl rfl) ?_
      refine seg hA' (by show 0 ≤ 1; decide) 102 762148549521887473292210273691253370375389720383563144109467606265845630026146527083774998966645988774991341982702906438753486501263524233216 (by kernel_rfl) (by kernel_rfl) ?_
      exact Go.done (.ret .none) (by kernel_rfl) (by kernel_rfl) fun h' D => post 0 h' _ D.aft
    · refine enter (V := wholeV _ dp un fr gu 0 h R d os) (T := .nil) (m := 0) hA' (by show 600 < 1000; decide) (start0 K) ?_
      refine seg hA' (by show 0 ≤ 0; decide) 135 35064497072743695804337854909654356958284647653599050825116100399870815700864925070853583601517461504 (by kernel_rfl) (by kernel_rfl) ?_
      exact Go.done (.ret .none) (by kernel_rfl) (by kernel_rfl) fun h' D => post 0 h' _ D.aft
end Mine
end
section
namespace Mine
@[elab_as_elim] theorem bk {motive : Bool → Prop} (b : Bool) (h0 : motive false) (h1 : motive true) : motive b := by cases b <;> assumption
theorem worldsB {P : World → Prop} (h : ∀ w b, P (vf w b)) (w : World) : P w := worlds (fun w => h w false) (fun w => h w true) w
theorem lt11 {P : Nat → Prop} (h0 : P 0) (h1 : P 1) (h2 : P 2) (h3 : P 3) (h4 : P 4) (h5 : P 5) (h6 : P 6) (h7 : P 7) (h8 : P 8) (h9 : P 9) (h10 : P 10) : ∀ i, i < 11 → P i
  | 0, _ => h0 | 1, _ => h1 | 2, _ => h2 | 3, _ => h3 | 4, _ => h4 | 5, _ => h5 | 6, _ => h6 | 7, _ => h7 | 8, _ => h8 | 9, _ => h9 | 10, _ => h10
  | n + 11, h => absurd h (by omega)
/-- the texts of numbers, and the numbers -/
noncomputable def numT : Nat → List Nat
  | 0 => [45, 50] | 1 => [45, 49] | 2 => [48] | 3 => [49] | 4 => [50] | 5 => [51] | 6 => [52] | 7 => [53] | 8 => [54] | 9 => [57] | _ => [50, 49, 52, 55, 52, 56, 51, 54, 52, 55]
noncomputable def numV : Nat → Int
  | 0 => -2 | 1 => -1 | 2 => 0 | 3 => 1 | 4 => 2 | 5 => 3 | 6 => 4 | 7 => 5 | 8 => 6 | 9 => 9 | _ => 2147483647
/-- whole_in(text, 32) -/
noncomputable def InSpec (w : World) : Prop := ∀ (A : Around) (h : Heap) (i t tw t0 : Nat) (d : Drawn) (os : OsState) (R : Result → Shared → Prop),
  A.handled = none → A.depth ≤ 590 → Known w.params h → i < 11 →
  (∀ (u : Nat) (h' : Heap) (t' : Nat), Aft h h' [] → R (.ok (.ret (.int (numV i) u))) ⟨h', #[], d, t', os⟩) →
  codeAny (model PySem.Challenge.pw_pf0369_01 w) A (.call (.ref 224) ⟨[.str ⟨⟨numT i⟩⟩ t, .int 32 tw], []⟩) R ⟨h, #[], d, t0, os⟩
set_option maxHeartbeats 0 in
theorem in_spec : ∀ w, InSpec w := by
  refine worldsB fun w b1 => ?_
  intro A h i t tw t0 d os R hA hd K hi
  obtain ⟨ha, dp, fr, gu, un⟩ := A
  cases hA
  have hA' : dp ≤ 600 := Nat.le_trans hd (by decide)
  revert i
  refine lt11 ?_ ?_ ?_ ?_ ?_ ?_ ?_ ?_ ?_ ?_ ?_
  · intro post
    refine enter (V := wholeV _ dp un fr gu 0 h R d os) (T := .nil) (m := 0) hA' (by show 600 < 1000; decide) (start0 K) ?_
    refine seg hA' (by show 0 ≤ 0; decide) 351 2829540404852942027594231661814019196356158378977670507753087742584836140513648696294227864806513285007516388765639447598591883727246974922953137672129456247582671118888308792248529939959349979963399275563594121763618816 (by refine bk b1 ?_ ?_ <;> kernel_rfl) (by refine bk b1 ?_ ?_ <;> kernel_rfl) ?_
    exact Go.doneI (-2) (by refine bk b1 ?_ ?_ <;> kernel_rfl) (by refine bk b1 ?_ ?_ <;> kernel_rfl) fun h' u D => post u h' _ D.aft
  · intro post
    refine enter (V := wholeV _ dp un fr gu 0 h R d os) (T := .nil) (m := 0) hA' (by show 600 < 1000; decide) (start0 K) ?_
    refine seg hA' (by show 0 ≤ 0; decide) 351 2829540404852942027594231661814019196356158378977670507753087742584836140513648696294227864806513285007516388765639447598591883727246974922953137672129456247582671118888308792248529939959349979963399275563594121763618816 (by refine bk b1 ?_ ?_ <;> kernel_rfl) (by refine bk b1 ?_ ?_ <;> kernel_rfl) ?_
    exact Go.doneI (-1) (by refine bk b1 ?_ ?_ <;> kernel_rfl) (by refine bk b1 ?_ ?_ <;> kernel_rfl) fun h' u D => post u h' _ D.aft
  · intro post
    refine enter (V := wholeV _ dp un fr gu 0 h R d os) (T := .nil) (m := 0) hA' (by show 600 < 1000; decide) (start0 K) ?_
    refine seg hA' (by show 0 ≤ 0; decide) 335 41175232106657663930958697655209219773840359312939896103189851278974939145686774349924222623502050291837421972953130256171698120152688637149537620428673800440054813097565041252733805627794957390200848399990784 (by refine bk b1 ?_ ?_ <;> kernel_rfl) (by refine bk b1 ?_ ?_ <;> kernel_rfl) ?_
    exact Go.doneI 0 (by refine bk b1 ?_ ?_ <;> kernel_rfl) (by refine bk b1 ?_ ?_ <;> kernel_rfl) fun h' u D => post u h' _ D.aft
  · intro post
    refine enter (V := wholeV _ dp un fr gu 0 h R d os) (T := .nil) (m := 0) hA' (by show 600 < 1000; decide) (start0 K) ?_
    refine seg hA' (by show 0 ≤ 0; decide) 335 41175232106657663930958697655209219773840359312939896103189851278974939145686774349924222623502050291837421972953130256171698120152688637149537620428673800440054813097565041252733805627794957390200848399990784 (by refine bk b1 ?_ ?_ <;> kernel_rfl) (by refine bk b1 ?_ ?_ <;> kernel_rfl) ?_
    exact Go.doneI 1 (by refine bk b1 ?_ ?_ <;> kernel_rfl) (by refine bk b1 ?_ ?_ <;> kernel_rfl) fun h' u D => post u h' _ D.aft
  · intro post
    refine enter (V := wholeV _ dp un fr gu 0 h R d os) (T := .nil) (m := 0) hA' (by show 600 < 1000; decide) (start0 K) ?_
    refine seg hA' (by show 0 ≤ 0; decide) 335 41175232106657663930958697655209219773840359312939896103189851278974939145686774349924222623502050291837421972953130256171698120152688637149537620428673800440054813097565041252733805627794957390200848399990784 (by refine bk b1 ?_ ?_ <;> kernel_rfl) (by refine bk b1 ?_ ?_ <;> kernel_rfl) ?_
    exact Go.doneI 2 (by refine bk b1 ?_ ?_ <;> kernel_rfl) (by refine bk b1 ?_ ?_ <;> kernel_rfl) fun h' u D => post u h' _ D.aft
  · intro post
    refine enter (V := wholeV _ dp un fr gu 0 h R d os) (T := .nil) (m := 0) hA' (by show 600 < 1000; decide) (start0 K) ?_
    refine seg hA' (by show 0 ≤ 0; decide) 335 41175232106657663930958697655209219773840359312939896103189851278974939145686774349924222623502050291837421972953130256171698120152688637149537620428673800440054813097565041252733805627794957390200848399990784 (by refine bk b1 ?_ ?_ <;> kernel_rfl) (by refine bk b1 ?_ ?_ <;> kernel_rfl) ?_
    exact Go.doneI 3 (by refine bk b1 ?_ ?_ <;> kernel_rfl) (by refine bk b1 ?_ ?_ <;> kernel_rfl) fun h' u D => post u h' _ D.aft
  · intro post
    refine enter (V := wholeV _ dp un fr gu 0 h R d os) (T := .nil) (m := 0) hA' (by show 600 < 1000; decide) (start0 K) ?_
    refine seg hA' (by show 0 ≤ 0; decide) 335 41175232106657663930958697655209219773840359312939896103189851278974939145686774349924222623502050291837421972953130256171698120152688637149537620428673800440054813097565041252733805627794957390200848399990784 (by refine bk b1 ?_ ?_ <;> kernel_rfl) (by refine bk b1 ?_ ?_ <;> kernel_rfl) ?_
    exact Go.doneI 4 (by refine bk b1 ?_ ?_ <;> kernel_rfl) (by refine bk b1 ?_ ?_ <;> kernel_rfl) fun h' u D => post u h' _ D.aft
  · intro post
    refine enter (V := wholeV _ dp un fr gu 0 h R d os) (T := .nil) (m := 0) hA' (by show 600 < 1000; decide) (start0 K) ?_
    refine seg hA' (by show 0 ≤ 0; decide) 335 41175232106657663930958697655209219773840359312939896103189851278974939145686774349924222623502050291837421972953130256171698120152688637149537620428673800440054813097565041252733805627794957390200848399990784 (by refine bk b1 ?_ ?_ <;> kernel_rfl) (by refine bk b1 ?_ ?_ <;> kernel_rfl) ?_
    exact Go.doneI 5 (by refine bk b1 ?_ ?_ <;> kernel_rfl) (by refine bk b1 ?_ ?_ <;> kernel_rfl) fun h' u D => post u h' _ D.aft
  · intro post
    refine enter (V := wholeV _ dp un fr gu 0 h R d os) (T := .nil) (m := 0) hA' (by show 600 < 1000; decide) (start0 K) ?_
    refine seg hA' (by show 0 ≤ 0; decide) 335 41175232106657663930958697655209219773840359312939896103189851278974939145686774349924222623502050291837421972953130256171698120152688637149537620428673800440054813097565041252733805627794957390200848399990784 (by refine bk b1 ?_ ?_ <;> kernel_rfl) (by refine bk b1 ?_ ?_ <;> kernel_rfl) ?_
    exact Go.doneI 6 (by refine bk b1 ?_ ?_ <;> kernel_rfl) (by refine bk b1 ?_ ?_ <;> kernel_rfl) fun h' u D => post u h' _ D.aft
  · intro post
    refine enter (V := wholeV _ dp un fr gu 0 h R d os) (T := .nil) (m := 0) hA' (by show 600 < 1000; decide) (start0 K) ?_
    refine seg hA' (by show 0 ≤ 0; decide) 335 41175232106657663930958697655209219773840359312939896103189851278974939145686774349924222623502050291837421972953130256171698120152688637149537620428673800440054813097565041252733805627794957390200848399990784 (by refine bk b1 ?_ ?_ <;> kernel_rfl) (by refine bk b1 ?_ ?_ <;> kernel_rfl) ?_
    exact Go.doneI 9 (by refine bk b1 ?_ ?_ <;> kernel_rfl) (by refine bk b1 ?_ ?_ <;> kernel_rfl) fun h' u D => post u h' _ D.aft
  · intro post
    refine enter (V := wholeV _ dp un fr gu 0 h R d os) (T := .nil) (m := 0) hA' (by show 600 < 1000; decide) (start0 K) ?_
    refine seg hA' (by show 0 ≤ 0; decide) 983 23231689134584625838632975270226101761490654667559438726366837051079288542581902071628790138716361115792275090570246712769659025994553560172591392984973289028366231943723139751894471943368342235546850294359025450536094855913314527662581184613817267982866664553419112995519733378228951265726496446937523826851224843819721517253992639570011186575091634279182206527795176727931254255536582785779995857449170163331730472661940423200476769922961082185291033201194082162906279447863917581178189510820630077880013790033485822437781566710180540931913707893493836335829468204281102336 (by refine bk b1 ?_ ?_ <;> kernel_rfl) (by refine bk b1 ?_ ?_ <;> kernel_rfl) ?_
    exact Go.doneI 2147483647 (by refine bk b1 ?_ ?_ <;> kernel_rfl) (by refine bk b1 ?_ ?_ <;> kernel_rfl) fun h' u D => post u h' _ D.aft
end Mine
end
section
namespace Mine
section
variable {prog : Program} {w : World} {A : Around} {s : Shared} {R : Result → Shared → Prop}
theorem Aft.refl (h : Heap) (M : List Nat) : Aft h h M := ⟨fun _ _ e _ => e, Nat.le_refl _⟩
theorem Aft.push (h : Heap) (o : Obj) : Aft h (h.push o) [] := ⟨fun _ _ e _ => Heap.get?_push_of_some _ e, by rw [Heap.size_push]; exact Nat.le_succ _⟩
theorem Aft.update {h : Heap} {a : Addr} {f : Obj → Obj} : Aft h (h.update a f) [a] := by
  have hs : Heap.SameBut a h (h.update a f) := Heap.SameBut.update ..
  exact ⟨fun b o e hb => (hs.2 b (by simpa using hb)).trans e, by rw [hs.1]; exact Nat.le_refl _⟩
theorem Aft.trans {h h' h'' : Heap} {M : List Nat} (x : Aft h h' M) (y : Aft h' h'' M) : Aft h h'' M := ⟨fun b o e hb => y.keep b o (x.keep b o e hb) hb, Nat.le_trans x.more y.more⟩
theorem Aft.weak {h h' : Heap} {M M' : List Nat} (x : Aft h h' M) (hm : ∀ a ∈ M, a ∈ M') : Aft h h' M' := ⟨fun b o e hb => x.keep b o e fun q => hb (hm b q), x.more⟩
theorem c_slice {l sl : Addr} {items : Array Value} {vl vu vs : Value} {lo hi st : Option Int} (hl : s.heap.IsList l items)
    (hs : s.heap.IsSliceOf sl vl vu vs) (pl : IsPart vl lo) (pu : IsPart vu hi) (ps : IsPart vs st) (h0 : st ≠ some 0)
    (h : R (.ok (.ret (.ref s.heap.objs.size))) { s with heap := s.heap.push { cls := .type "list", data := .seq (slicePick items lo hi st) } })
    (hsz : items.size ≤ sizeLine) : codeAny (model prog w) A (.call (.builtin "list.__getitem__") ⟨[.ref l, .ref sl], []⟩) R s := by
  obtain ⟨o, ho, hc, ne, hd⟩ := id hl
  obtain ⟨os, hos, hcs, hds⟩ := id hs
  have hTs : s.TypeIs (.ref sl) "slice" := ⟨os, hos, hcs⟩
  refine code_slot slot_list_getitem hl.typeIs entry_list_getitem (args_list_getitem _ _) ?_
  show wpAny _ _ (Builtin.List.listSubscript? (.ref sl) >>= _) _ _ s
  refine wpAny_bind ?_
  unfold Builtin.List.listSubscript?
  refine wpAny_bind (wpAny_specialOf hTs slice_no_index ?_)
  simp only [Option.isNone_none, if_true]
  refine wpAny_pure ?_
  show wpAny _ _ (typeOf (.ref sl) >>= _) _ _ s
  refine wpAny_bind (wpAny_typeOf hTs ?_)
  rw [if_neg (by decide)]
  rw [listSliceParts_eq]
  have hstep : ¬ ((rawPart st == rawInt 0) = true) := by
    cases st with
    | none => exact Bool.false_ne_true
    | some c =>
      intro hh
      have : c = 0 := by simpa [rawPart, rawInt] using hh
      exact h0 (by rw [this])
  refine wpAny_bind (wpAny_bind (wpAny_field hos hds (x := vs) rfl (wpAny_bind (wpAny_listPart ps ?_))))
  rw [if_neg hstep]
  refine wpAny_bind (wpAny_field hos hds (x := vl) rfl (wpAny_bind (wpAny_listPart pl ?_)))
  refine wpAny_bind (wpAny_field hos hds (x := vu) rfl (wpAny_bind (wpAny_listPart pu (wpAny_pure ?_))))
  refine wpAny_bind (m := Builtin.List.listItems (.ref l)) ?_
  unfold Builtin.List.listItems
  refine wpAny_bind (wpAny_seqItems ho hd (wpAny_pure ?_))
  refine wpAny_bind (wpAny_of_eq (sliceIndices_raw lo hi st items.size h0) ?_)
  exact wpAny_bind (wpAny_newObj_type (wpAny_pure ⟨_, rfl, h⟩) (Nat.le_trans (slicePick_size_le items lo hi st) hsz))
/-- a list's iterator -/
noncomputable def litr (l : Nat) (i : Int) (dd : Option Addr) (sl : Array (Option Value)) : Obj := ⟨.type "list_iterator", dd, .fields ⟨[.ref l, .int i 0]⟩, sl⟩
theorem c_next_item {it l : Addr} {i : Nat} {items : Array Value} {x : Value} {dd : Option Addr} {sl : Array (Option Value)} (hit : s.heap.get? it = some (litr l i dd sl)) (hl : s.heap.IsList l items) (hx : items[i]? = some x)
    (hQ : ∀ h', h'.get? it = some (litr l ((i : Int) + 1) dd sl) → h'.objs.size = s.heap.objs.size → Aft s.heap h' [it] → R (.ok (.ret x)) { s with heap := h' }) :
    codeAny (model prog w) A (.call (.builtin "list_iterator.__next__") ⟨[.ref it], []⟩) R s := by
  obtain ⟨ol, hol, _, nl, hdl⟩ := hl
  have hT : s.TypeIs (.ref it) "list_iterator" := ⟨_, hit, rfl⟩
  refine code_slot slot_listiter_next hT entry_listiter_next (args_listiter_next _) ?_
  show wpAny _ _ (field (.ref it) 0 >>= _) _ _ s
  refine wpAny_bind (wpAny_field hit rfl (x := .ref l) rfl ?_)
  show wpAny _ _ (if (Value.ref l == Value.none) = true then _ else _) _ _ s
  rw [if_neg (show ¬ ((Value.ref l == Value.none) = true) from Bool.false_ne_true)]
  show wpAny _ _ (field (.ref it) 1 >>= _) _ _ s
  refine wpAny_bind (wpAny_field hit rfl (x := .int i 0) rfl ?_)
  show wpAny _ _ (seqItems? (.ref l) >>= _) _ _ s
  refine wpAny_bind (wpAny_seqItems hol hdl ?_)
  simp only [Int.toNat_natCast, hx]
  refine wpAny_bind (wpAny_setField hit rfl (by simp) (wpAny_pure ⟨x, rfl, hQ _ ?_ ?_ Aft.update⟩))
  · exact Heap.get?_update_self _ hit rfl
  · have hs : Heap.SameBut it s.heap (s.heap.update it (Obj.mapFields fun v => v.setIfInBounds 1 (.int ((i : Int) + 1) 0))) := Heap.SameBut.update ..
    exact hs.1
/-- a list's iterator at its end -/
noncomputable def litX (i : Int) (dd : Option Addr) (sl : Array (Option Value)) : Obj := ⟨.type "list_iterator", dd, .fields ⟨[.none, .int i 0]⟩, sl⟩
theorem c_next_end {it l : Addr} {i : Nat} {items : Array Value} {dd : Option Addr} {sl : Array (Option Value)} (hh : A.handled = none) (hit : s.heap.get? it = some (litr l i dd sl)) (hl : s.heap.IsList l items) (hx : items[i]? = none)
    (hQ : ∀ h' d2 dt s2, h'.get? (s.heap.objs.size + 1) = some ⟨.type "StopIteration", d2, dt, s2⟩ → h'.get? it = some (litX i dd sl) → h'.objs.size = s.heap.objs.size + 2 → Aft s.heap h' [it] → R (.error (.ref (s.heap.objs.size + 1))) { s with heap := h' }) :
    codeAny (model prog w) A (.call (.builtin "list_iterator.__next__") ⟨[.ref it], []⟩) R s := by
  obtain ⟨ol, hol, _, nl, hdl⟩ := hl
  have hT : s.TypeIs (.ref it) "list_iterator" := ⟨_, hit, rfl⟩
  refine code_slot slot_listiter_next hT entry_listiter_next (args_listiter_next _) ?_
  show wpAny _ _ (field (.ref it) 0 >>= _) _ _ s
  refine wpAny_bind (wpAny_field hit rfl (x := .ref l) rfl ?_)
  show wpAny _ _ (if (Value.ref l == Value.none) = true then _ else _) _ _ s
  rw [if_neg (show ¬ ((Value.ref l == Value.none) = true) from Bool.false_ne_true)]
  show wpAny _ _ (field (.ref it) 1 >>= _) _ _ s
  refine wpAny_bind (wpAny_field hit rfl (x := .int i 0) rfl ?_)
  show wpAny _ _ (seqItems? (.ref l) >>= _) _ _ s
  refine wpAny_bind (wpAny_seqItems hol hdl ?_)
  simp only [Int.toNat_natCast, hx]
  refine wpAny_bind (wpAny_rule (wpAny_bind (wpAny_setField hit rfl (by simp) ?_)))
  show wpAny _ _ (newExc (.type "StopIteration") [] >>= _) _ _ _
  refine wpAny_bind ?_
  simp only [newExc, newTuple]
  refine wpAny_bind (wpAny_newObj_type ?_ (by size_fits))
  refine wpAny_bind (m := firstArgMember _ _) (wpAny_of_eq (a := Value.none) (by first | rfl | (simp only [firstArgMember]; rfl)) ?_)
  refine wpAny_newObj_type ?_ (by size_fits)
  simp only [raiseNew]
  refine wpAny_bind (wpAny_handled ?_)
  rw [show A.in1.handled = none from hh]
  refine wpAny_bind (wpAny_pure (wpAny_throw ?_))
  have hs : Heap.SameBut it s.heap (s.heap.update it (Obj.mapFields fun x => x.setIfInBounds 0 Value.none)) := Heap.SameBut.update ..
  have h1 : (s.heap.update it (Obj.mapFields fun x => x.setIfInBounds 0 Value.none)).get? it = some (litX i dd sl) := Heap.get?_update_self _ hit rfl
  have hsz := hs.1
  have k : ∀ o1 o2 : Obj, o2.isFreed = false → (((s.heap.update it (Obj.mapFields fun x => x.setIfInBounds 0 Value.none)).push o1).push o2).get? (s.heap.objs.size + 1) = some o2 := fun o1 o2 hf => by
    have := Heap.get?_push_size ((s.heap.update it (Obj.mapFields fun x => x.setIfInBounds 0 Value.none)).push o1) hf
    rwa [Heap.size_push, hsz] at this
  show R (.error (.ref ((Heap.push _ _).objs.size))) _
  rw [Heap.size_push, hsz]
  refine hQ _ _ _ _ (k _ _ rfl) (Heap.get?_push_of_some _ (Heap.get?_push_of_some _ h1)) ?_ (Aft.trans Aft.update (Aft.trans ((Aft.push _ _).weak (by simp)) ((Aft.push _ _).weak (by simp))))
  rw [Heap.size_push, Heap.size_push, hsz]
end
end Mine
end
section
namespace Mine
section
variable {prog : Program} {w : World} {A : Around} {s : Shared} {R : Result → Shared → Prop} {E : Value → Shared → Prop}
/-- the value at a str in a dict whose keys are all strs -/
noncomputable def strDict (o : Obj) (x : Str) : Option Value := match o with
  | ⟨.type T, none, .dict es _, _⟩ => match T == "dict" && es.all fun e => isExactStrKey e.key with
    | true => (es.find? fun e => e.key.isStr x).map (·.val)
    | false => none
  | _ => none
theorem w_dictGet {d : Addr} {o : Obj} {x : Str} {t : Tok} {v : Value} {Q : Option Value → Shared → Prop} (ho : s.heap.get? d = some o) (hv : strDict o x = some v) (h : Q (some v) { s with toks := s.toks + 1 }) :
    wpAny (model prog w) A (dictGet d (.str x t)) Q E s := by
  unfold strDict at hv
  split at hv
  · rename_i T es ep sl
    split at hv
    · rename_i hc
      obtain ⟨_, hall⟩ := Bool.and_eq_true_iff.mp hc
      cases hf : es.find? fun e => e.key.isStr x with
      | none => rw [hf] at hv; cases hv
      | some e =>
        rw [hf] at hv
        have hev : e.val = v := by simpa using hv
        obtain ⟨hex, i, hlt, hei, hbefore⟩ := Array.find?_eq_some_iff_getElem.mp hf
        have hidx : es.findIdx? (fun e => e.key.isStr x) = some i := Array.findIdx?_eq_some_iff_getElem.mpr ⟨hlt, by rw [hei]; exact hex, fun j hj => by simpa using hbefore j hj⟩
        obtain ⟨y, u, hy⟩ : ∃ y u, e.key = .str y u := by
          cases q : e.key <;> simp [q, Value.isStr] at hex
          exact ⟨_, _, rfl⟩
        have hyx : y = x := by rw [hy] at hex; simpa [Value.isStr] using hex
        subst hyx
        unfold dictGet
        try with_reducible refine wpAny_holding ?_
        refine wpAny_bind (wpAny_pyHash_str (wpAny_bind ?_))
        unfold dictFind
        try with_reducible refine wpAny_holding ?_
        refine wpAny_bind (wpAny_dictEntries (s := { s with toks := s.toks + 1 }) ho rfl ?_)
        dsimp only
        rw [if_pos hall]
        unfold foundByValue
        rw [hidx]
        dsimp only
        rw [Array.getElem?_eq_getElem hlt, hei]
        dsimp only
        rw [hy]
        refine wpAny_bind (wpAny_dictEpoch (s := { s with toks := s.toks + 1 }) ho rfl (wpAny_bind (wpAny_eqBool_str (wpAny_bind (wpAny_dictEpoch (s := { s with toks := s.toks + 1 }) ho rfl ?_)))))
        rw [if_neg (by simp), decide_eq_true rfl]
        refine wpAny_bind (wpAny_rule (wpAny_pure ?_))
        dsimp only
        refine wpAny_bind (wpAny_dictEntries (s := { s with toks := s.toks + 1 }) ho rfl (wpAny_pure ?_))
        rw [Array.getElem?_eq_getElem hlt, hei]
        simp only [Option.map, hev]
        exact h
    · cases hv
  · cases hv
theorem strDict_type {d : Addr} {o : Obj} {x : Str} {v : Value} (ho : s.heap.get? d = some o) (hv : strDict o x = some v) : s.TypeIs (.ref d) "dict" := by
  unfold strDict at hv
  split at hv
  · split at hv
    · rename_i T es ep sl _ hc
      obtain ⟨hT, _⟩ := Bool.and_eq_true_iff.mp hc
      have : T = "dict" := by simpa using hT
      subst this
      exact ⟨_, ho, rfl⟩
    · cases hv
  · cases hv
theorem c_dgetitem {d : Addr} {o : Obj} {x : Str} {t : Tok} {v : Value} (ho : s.heap.get? d = some o) (hv : strDict o x = some v) (h : R (.ok (.ret v)) { s with toks := s.toks + 1 }) :
    codeAny (model prog w) A (.call (.builtin "dict.__getitem__") ⟨[.ref d, .str x t], []⟩) R s := by
  refine code_slot F.slot_dict_getitem (strDict_type ho hv) F.entry_dict_getitem (F.args_dict_getitem_2 _ _) ?_
  show wpAny _ _ (dictGet d (.str x t) >>= _) _ _ s
  refine wpAny_bind (w_dictGet ho hv ?_)
  exact wpAny_pure ⟨v, rfl, h⟩
theorem c_dget {d : Addr} {o : Obj} {x : Str} {t : Tok} {v : Value} (ho : s.heap.get? d = some o) (hv : strDict o x = some v) (h : R (.ok (.ret v)) { s with toks := s.toks + 1 }) :
    codeAny (model prog w) A (.call (.builtin "dict.get") ⟨[.ref d, .str x t], []⟩) R s := by
  refine code_slot F.slot_dict_get (strDict_type ho hv) F.entry_dict_get (F.args_dict_get_2 _ _) ?_
  show wpAny _ _ (dictGet d (.str x t) >>= _) _ _ s
  refine wpAny_bind (w_dictGet ho hv ?_)
  exact wpAny_pure ⟨v, rfl, h⟩
theorem c_dget3 {d : Addr} {o : Obj} {x : Str} {t : Tok} {v y : Value} (ho : s.heap.get? d = some o) (hv : strDict o x = some v) (h : R (.ok (.ret v)) { s with toks := s.toks + 1 }) :
    codeAny (model prog w) A (.call (.builtin "dict.get") ⟨[.ref d, .str x t, y], []⟩) R s := by
  refine code_slot F.slot_dict_get (strDict_type ho hv) F.entry_dict_get (F.args_dict_get_3 _ _ _) ?_
  show wpAny _ _ (dictGet d (.str x t) >>= _) _ _ s
  refine wpAny_bind (w_dictGet ho hv ?_)
  exact wpAny_pure ⟨v, rfl, h⟩
theorem code_meets {T : String} {name : Str} {id : String} {b : Builtin} {self : Value} {rest : List Value} {S : PySem.Spec} (h : Slot T name id) (hT : s.TypeIs self T) (hb : entryFor table id = some b) (ha : argsOk id ⟨self :: rest, []⟩)
    (hm : Meets (b ⟨self :: rest, []⟩) S) (hs : S A R s) : codeAny (model prog w) A (.call (.builtin id) ⟨self :: rest, []⟩) R s :=
  codeAny_call_builtin h.plain hb (h.check _ _ _ _ _ _ _ _ hT ha (hm prog w A R s hs))
/-- two lists of strs, by value -/
noncomputable def eqV : Value → Value → Bool
  | .str a _, .str b _ => decide (a = b)
  | _, _ => false
noncomputable def strV : Value → Bool
  | .str .. => true
  | _ => false
noncomputable def listOf (o : Obj) : Option (List Value) := match o with
  | ⟨.type T, _, .seq ⟨vs⟩ _, _⟩ => match T == "list" with
    | true => some vs
    | false => none
  | _ => none
theorem listOf_eq {o : Obj} {vs : List Value} (e : listOf o = some vs) : ∃ dd n sl, o = { cls := .type "list", dict := dd, data := .seq ⟨vs⟩ n, slots := sl } := by
  unfold listOf at e
  split at e
  · rename_i T dd vs' n sl
    split at e
    · rename_i hT
      cases e
      have : T = "list" := by simpa using hT
      subst this
      exact ⟨dd, n, sl, rfl⟩
    · cases e
  · cases e
/-- equal item by item -/
noncomputable def eqVs : List Value → List Value → Bool
  | [], [] => true
  | x :: xs, y :: ys => eqV x y && eqVs xs ys
  | _, _ => false
theorem eqVs_all : ∀ (xs ys : List Value), xs.length = ys.length → eqVs xs ys = (List.range xs.length).all fun j => eqV (xs.getD j .none) (ys.getD j .none)
  | [], [], _ => rfl
  | x :: xs, y :: ys, h => by
    have h' : xs.length = ys.length := by simpa using h
    unfold eqVs
    rw [eqVs_all xs ys h', List.length_cons, List.range_succ_eq_map, List.all_cons, List.all_map]
    rfl
theorem c_lne {a b : Addr} {o1 o2 : Obj} {xs ys : List Value} (h1 : s.heap.get? a = some o1) (h2 : s.heap.get? b = some o2) (e1 : listOf o1 = some xs) (e2 : listOf o2 = some ys)
    (hx : xs.all strV = true) (hy : ys.all strV = true) (h : R (.ok (.ret (.bool (!eqVs xs ys)))) s) : codeAny (model prog w) A (.call (.builtin "list.__ne__") ⟨[.ref a, .ref b], []⟩) R s := by
  obtain ⟨d1, n1, s1, rfl⟩ := listOf_eq e1
  obtain ⟨d2, n2, s2, rfl⟩ := listOf_eq e2
  have hT : s.TypeIs (.ref a) "list" := ⟨_, h1, rfl⟩
  by_cases hl : xs.length = ys.length
  · refine code_meets F.slot_list_ne hT F.entry_list_ne (F.args_list_ne_2 _ _) (SeqAt.list_neAt a b ⟨xs⟩ ⟨ys⟩ n1 n2 d1 d2 s1 s2 hl (fun j => eqV (xs.getD j .none) (ys.getD j .none))) ⟨h1, h2, fun j j1 j2 => ?_, ?_⟩
    · intro prog w E Q hQ
      have g1 : xs.getD j .none = xs[j]'j1 := by rw [List.getD_eq_getElem?_getD, List.getElem?_eq_getElem (by exact j1)]; rfl
      have g2 : ys.getD j .none = ys[j]'j2 := by rw [List.getD_eq_getElem?_getD, List.getElem?_eq_getElem (by exact j2)]; rfl
      rw [g1, g2] at hQ
      have k1 := List.all_eq_true.mp hx _ (List.getElem_mem (h := j1))
      have k2 := List.all_eq_true.mp hy _ (List.getElem_mem (h := j2))
      show wpAny _ _ (PySem.eqBool (xs[j]'j1) (ys[j]'j2)) _ _ _
      revert hQ k1 k2
      generalize xs[j]'j1 = x
      generalize ys[j]'j2 = y
      intro hQ k1 k2
      cases x <;> cases k1
      cases y <;> cases k2
      exact wpAny_eqBool_str hQ
    · show R (.ok (.ret (.bool (!(List.range xs.length).all fun j => eqV (xs.getD j .none) (ys.getD j .none))))) s
      rw [← eqVs_all xs ys hl]
      exact h
  · have hn : eqVs xs ys = false := by
      clear h e1 e2 hx hy h1 h2 hT
      induction xs generalizing ys with
      | nil => cases ys with
        | nil => exact absurd rfl hl
        | cons => rfl
      | cons x xs ih => cases ys with
        | nil => rfl
        | cons y ys =>
          have := ih (ys := ys) (fun e => hl (by simp [e]))
          unfold eqVs
          rw [this, Bool.and_false]
    rw [hn] at h
    exact code_meets F.slot_list_ne hT F.entry_list_ne (F.args_list_ne_2 _ _) (SeqAt.list_ne_lengthsAt a b ⟨xs⟩ ⟨ys⟩ n1 n2 d1 d2 s1 s2 (by simpa using hl)) ⟨h1, h2, h⟩
end
end Mine
end
section
namespace Mine
open Sem (wp)

/-! ## a run that knows the whole stack -/
abbrev KX := List (Code × Option Value × Pos × (Result → Sem PySem.Fin))
structure SX where
  c : Code
  κ : KX
  t : Sem PySem.Fin
  p : Pos
  T : LT
  m : Nat
  nx : Nat
  tk : Nat
structure OX where
  ok : Bool
  eqs : List (Nat × Nat)
  st : SX
structure VX extends Ws where
  Γ : PySem.Ctx
noncomputable def ctxX (Γ : PySem.Ctx) : KX → Code → PySem.Ctx
  | [], c => Γ.goto c
  | (c', hd, p, _) :: κ, c => (ctxX Γ κ c').enter c hd p
theorem ctxX_code (Γ : PySem.Ctx) : ∀ (κ : KX) (c : Code), (ctxX Γ κ c).code = c
  | [], _ => rfl
  | _ :: _, _ => rfl
theorem ctxX_goto (Γ : PySem.Ctx) : ∀ (κ : KX) (c c' : Code), (ctxX Γ κ c).goto c' = ctxX Γ κ c'
  | [], _, _ => rfl
  | _ :: _, _, _ => rfl
noncomputable def actX (den : Code → Sem PySem.Fin) (V : VX) (go : Nat → List (Nat × Nat) → SX → OX) (cs : Nat) (eqs : List (Nat × Nat)) : SX → OX
  | ⟨c, κ, t, p, T, m, nx, tk⟩ => match t with
    | .pure fin => match fin with
      | .done f => match κ with
        | [] => ⟨false, eqs, ⟨c, κ, t, p, T, m, nx, tk⟩⟩
        | x :: κ' => go cs eqs ⟨x.1, κ', x.2.2.2 (.ok f), x.2.2.1, T, m, nx, tk⟩
      | .again c' => match c'.quiet with
        | true => go cs eqs ⟨c', κ, den c', p, T, m, nx, tk⟩
        | false => ⟨false, eqs, ⟨c, κ, t, p, T, m, nx, tk⟩⟩
    | .raise e => match κ with
      | [] => ⟨false, eqs, ⟨c, κ, t, p, T, m, nx, tk⟩⟩
      | x :: κ' => go cs eqs ⟨x.1, κ', x.2.2.2 (.error e), x.2.2.1, T, m, nx, tk⟩
    | .rule _ k => go cs eqs ⟨c, κ, k (), p, T, m, nx, tk⟩
    | .at q k => go cs eqs ⟨c, κ, k (), q, T, m, nx, tk⟩
    | .point _ k => go cs eqs ⟨c, κ, k (), p, T, m, nx, tk⟩
    | .ask k => go cs eqs ⟨c, κ, k ⟨V.prog, V.w.params⟩, p, T, m, nx, tk⟩
    | .fresh k => go cs eqs ⟨c, κ, k tk, p, T, m, nx, tk + 1⟩
    | .handled own k => go cs eqs ⟨c, κ, k (if own then (ctxX V.Γ κ c).own else (ctxX V.Γ κ c).handled), p, T, m, nx, tk⟩
    | .stack k => go cs eqs ⟨c, κ, k ((c, p) :: (ctxX V.Γ κ c).below), p, T, m, nx, tk⟩
    | .thread k => go cs eqs ⟨c, κ, k 0, p, T, m, nx, tk⟩
    | .load a _ k => match lookZ V.kt T (cs % 512) a with
      | some x => go (cs / 512) (pushE a x.1 eqs) ⟨c, κ, k x.2, p, T, m, nx, tk⟩
      | none => ⟨false, eqs, ⟨c, κ, t, p, T, m, nx, tk⟩⟩
    | .loadIfAlive a k => match lookZ V.kt T (cs % 512) a with
      | some x => go (cs / 512) (pushE a x.1 eqs) ⟨c, κ, k (some x.2), p, T, m, nx, tk⟩
      | none => ⟨false, eqs, ⟨c, κ, t, p, T, m, nx, tk⟩⟩
    | .alloc o k => match allocZ V.g2 m T o with
      | false => ⟨false, eqs, ⟨c, κ, t, p, T, m, nx, tk⟩⟩
      | true => objK o fun o' => T.putK m nx o' fun T' => match T'.get m with
          | some _ => go cs eqs ⟨c, κ, k nx, p, T', m + 1, nx + 1, tk⟩
          | none => ⟨false, eqs, ⟨c, κ, t, p, T, m, nx, tk⟩⟩
    | .update a _ f k => match updZ V.g1 V.g2 (cs % 512) T f with
      | some x => objK (f x.2.2) fun o => T.putK x.1 x.2.1 o fun T' => go (cs / 512) ((a, x.2.1) :: eqs) ⟨c, κ, k (), p, T', m, nx, tk⟩
      | none => ⟨false, eqs, ⟨c, κ, t, p, T, m, nx, tk⟩⟩
    | .call c' hd _ _ k => go cs eqs ⟨c', (c, hd, p, k) :: κ, den c', p, T, m, nx, tk⟩
    | _ => ⟨false, eqs, ⟨c, κ, t, p, T, m, nx, tk⟩⟩
noncomputable def runX (den : Code → Sem PySem.Fin) (V : VX) : Nat → Nat → List (Nat × Nat) → SX → OX
  | 0, _, eqs, S => ⟨true, eqs, S⟩
  | n + 1, cs, eqs, S => actX den V (runX den V n) cs eqs S

/-! ## a frame that an exception leaves, with no comparing of addresses -/
noncomputable def placeZ (hadNext : Bool) : List (Code × Pos) → List Value
  | [] => []
  | (_, pos) :: under => if pos.line == 0 then [] else [rawInt pos.line, rawInt pos.endLine, rawInt pos.col, rawInt pos.endCol] ++
      [if (EntryCells.make ((under.filterMap fun (c, _) => match c with | .builtin id _ => some id | _ => none).eraseDups)).length > sizeLine then .none
        else .str (EntryCells.make ((under.filterMap fun (c, _) => match c with | .builtin id _ => some id | _ => none).eraseDups)) 0, .bool hadNext]
noncomputable def entryZ (e head : Value) (f : Addr) : Sem Unit := do
  let st ← stack
  readyFrames ((st.filter (·.1.isFrame)).filterMap (·.1.env?))
  let st2 ← stack
  let b ← EntryCells.newEntry head (.ref f) .none (rawInt f) .none (placeZ (head != .none) st2)
  setField e 1 b
noncomputable def noteZ (e : Value) (env : Env) : Sem Unit := match env.frame with
  | none => unsupported "z"
  | some f => do
    let head ← field e 1
    match head with
    | .none => entryZ e .none f
    | .ref t => do
      let x ← field (.ref t) 3
      match x with
      | .none => do
        setField (.ref t) 3 .none
        entryZ e (.ref t) f
      | _ => unsupported "z"
    | _ => unsupported "z"
noncomputable def leaveZ (env : Env) (e : Value) : Sem Unit := do
  noteZ e env
  setFlight e none
noncomputable def tryZ (b : List Stmt) (hs : List ExceptHandler) (env : Env) (pos : Pos) : Sem Flow := do
  standAt pos
  match ← (execs b env).attempt with
  | .ok f => pure f
  | .error e => do
    noteZ e env
    match hs.isEmpty with
    | true => throw e
    | false => do
      setFlight e none
      handleBy e env hs
/-- super() in a def, with no comparing of addresses -/
noncomputable def baseZ (id : Str) (sp : Pos) (attr : Str) (env : Env) : Sem Value :=
  match id != "super" || attr == "__class__" || env.kindOf "super" != some .globalImplicit || env.kindOf "__class__" != some .free with
  | true => unsupported "z"
  | false => match env.func with
    | none => unsupported "z"
    | some f => do
      let fd ← funcData (.ref f)
      match (fun (p : Arguments) => (p.posonlyargs ++ p.args).head?) fd.params with
      | none => unsupported "z"
      | some first => do
        let prog := (← ask).program
        match ← (match env.code with | .none => pure .none | c => field c 2 : Sem Value) with
        | .str file _ => match prog.main.file == file && (prog.main.scope.names.lookup ("super" : Str)).isNone with
          | false => unsupported "z"
          | true => do
            rule "super.attribute-form"
            standAt sp
            let g ← loadName env "super"
            let cls ← loadName env "__class__"
            let self ← loadName env first.arg
            let aType ← isType cls
            match g == .type "super" && aType with
            | true => call g [cls, self]
            | false => unsupported "z"
        | _ => unsupported "z"
noncomputable def superZ (v : Expr) (o : Expr) (id : Str) (sp : Pos) (attr : Str) (apos : Pos) (args : List Expr) (kws : List Keyword) (pos epos : Pos) (env : Env) : Sem Flow := do
  standAt epos
  match interactive env with
  | true => unsupported "z"
  | false => do
    match ← swapsWith v none epos.line env with
    | true => unsupported "z"
    | false => do
      let ov ← baseZ id sp attr env
      standAt apos.atName
      let r ← methodCall o attr apos pos env ov (args.length + kws.length) (backTo pos (starEach args env)) (backToKw pos (keywordEach kws env))
      dropValue v epos r
noncomputable def execsX (body : List Stmt) (env : Env) : Sem Flow := match body with
  | [.Try b hs [] [] pos] => tryZ b hs env pos
  | .Expr (.Call (.Attribute (.Call (.Name id np) [] [] sp) attr apos) args kws pos) epos :: rest => do
    match ← superZ (.Call (.Attribute (.Call (.Name id np) [] [] sp) attr apos) args kws pos) (.Call (.Name id np) [] [] sp) id sp attr apos args kws pos epos env with
    | .next => execs rest env
    | f => pure f
  | _ => execs body env
noncomputable def denY : Code → Sem PySem.Fin
  | .func body env => do
    point
    match ← (execsX body env).onRaise (leaveZ env) with
    | .ret v => ret v
    | _ => ret .none
  | .expr e env => do
    point
    ret (← (eval e env).onRaise (leaveZ env))
  | c => denote treeTable c
/-- a dict's value at a str, all its keys strs -/
noncomputable def getZ (d : Addr) (x : Str) : Sem PySem.Fin := do
  let o ← load d
  match strDict o x with
  | some v => do
    let _ ← Sem.fresh .pure
    ret v
  | none => unsupported "z"
/-- two lists of strs -/
noncomputable def neZ (a b : Addr) : Sem PySem.Fin := do
  let o1 ← load a
  let o2 ← load b
  match listOf o1 with
  | some xs => match listOf o2 with
    | some ys => match xs.all strV && ys.all strV with
      | true => ret (.bool (!eqVs xs ys))
      | false => unsupported "z"
    | none => unsupported "z"
  | none => unsupported "z"
/-- a list extended by a list -/
noncomputable def plainOf (o : Obj) : Option (List Value × Nat) := match o with
  | ⟨.type T, none, .seq ⟨vs⟩ n, ⟨[]⟩⟩ => match T == "list" && Nat.ble vs.length 1000 with
    | true => some (vs, n)
    | false => none
  | _ => none
theorem plainOf_eq {o : Obj} {vs : List Value} {n : Nat} (e : plainOf o = some (vs, n)) : o = { cls := .type "list", dict := none, data := .seq ⟨vs⟩ n, slots := #[] } ∧ vs.length ≤ 1000 := by
  unfold plainOf at e
  split at e
  · rename_i T vs' n'
    split at e
    · rename_i hT
      cases e
      obtain ⟨h1, h2⟩ := Bool.and_eq_true_iff.mp hT
      have : T = "list" := by simpa using h1
      subst this
      exact ⟨rfl, Nat.le_of_ble_eq_true h2⟩
    · cases e
  · cases e
noncomputable def extZ (a b : Addr) (r : Value) : Sem PySem.Fin := do
  let o1 ← load a
  let o2 ← load b
  match plainOf o1 with
  | some _ => match plainOf o2 with
    | some (ys, _) => do
      update a (Obj.mapSeq fun x => x ++ (⟨ys⟩ : Array Value))
      ret r
    | none => unsupported "z"
  | none => unsupported "z"
noncomputable def hookZ : Code → Option (Sem PySem.Fin)
  | .call (.builtin id) ⟨[.ref d, .str x _], []⟩ => match id == "dict.__getitem__" || id == "dict.get" with
    | true => some (getZ d x)
    | false => none
  | .call (.builtin id) ⟨[.ref d, .str x _, _], []⟩ => match id == "dict.get" with
    | true => some (getZ d x)
    | false => none
  | .call (.builtin id) ⟨[.ref a, .ref b], []⟩ => match id == "list.__ne__" with
    | true => some (neZ a b)
    | false => match id == "list.extend" with
      | true => some (extZ a b .none)
      | false => none
  | .builtin id ⟨[.ref a, .ref b], []⟩ => match id == "list.__iadd__" with
    | true => some (extZ a b (.ref a))
    | false => none
  | _ => none
noncomputable def denX (c : Code) : Sem PySem.Fin := match hookZ c with
  | some z => z
  | none => denY c
section
variable {M : Model} {Γ : PySem.Ctx} {env : Env}
theorem wp_frameOf {Q : Value → Pos → Shared → Prop} {E : Value → Pos → Shared → Prop} {p : Pos} {s : Shared} {f : Addr} (hi : Γ.code.isFrame = true) (he : Γ.code.env? = some env) (hf : env.frame = some f)
    (h : wp M Γ (do let st ← stack; readyFrames ((st.filter (·.1.isFrame)).filterMap (·.1.env?))) (fun _ => Q (.ref f)) E p s) : wp M Γ (PySem.frameOf env) Q E p s := by
  unfold PySem.frameOf frameEnvs
  simp only [Sem.wp_bind', stack, Sem.wp, Sem.wp_pure'] at h ⊢
  have e0 : ((((Γ.code, p) :: Γ.below).filter (·.1.isFrame)).filterMap (·.1.env?)) = env :: ((Γ.below.filter (·.1.isFrame)).filterMap (·.1.env?)) := by
    rw [List.filter_cons_of_pos (by exact hi), List.filterMap_cons_some (by exact he)]
  rw [e0] at h ⊢
  have hdw : ((env :: ((Γ.below.filter (·.1.isFrame)).filterMap (·.1.env?))).dropWhile fun x => x.frame != env.frame) = env :: ((Γ.below.filter (·.1.isFrame)).filterMap (·.1.env?)) := by simp [List.dropWhile]
  rw [hdw]
  unfold frameObject
  rw [Sem.wp_bind']
  refine Sem.wp_mono M Γ _ (fun _ p' s' x => ?_) (fun _ _ _ x => x) p s h
  rw [Sem.wp_pure']
  simp only [hf, Option.map]
  exact x
theorem placeZ_eq {f : Addr} {p : Pos} {hn : Bool} {below : List (Code × Pos)} {c : Code} (hi : c.isFrame = true) (he : c.env? = some env) (hf : env.frame = some f) :
    (match ((c, p) :: below).find? (fun (c, _) => c.env?.bind (·.frame) == some f) with
      | some (_, pos) => (if pos.line == 0 then [] else [rawInt pos.line, rawInt pos.endLine, rawInt pos.col, rawInt pos.endCol] ++ EntryCells.cells f hn ((c, p) :: below))
      | none => []) = placeZ hn ((c, p) :: below) := by
  rw [List.find?_cons_of_pos (by simp [he, hf])]
  have hb : EntryCells.beneath f ((c, p) :: below) = some ((below.filterMap fun (c, _) => match c with | .builtin id _ => some id | _ => none).eraseDups) := by
    unfold EntryCells.beneath
    rw [List.dropWhile_cons_of_neg (by simp [hi, he, hf])]
    rfl
  unfold EntryCells.cells
  rw [hb]
  rfl
theorem wp_entry {Q : Unit → Pos → Shared → Prop} {E : Value → Pos → Shared → Prop} {p : Pos} {s : Shared} {f : Addr} {e head : Value} (hi : Γ.code.isFrame = true) (he : Γ.code.env? = some env) (hf : env.frame = some f)
    (h : wp M Γ (entryZ e head f) Q E p s) :
    wp M Γ (do let a ← PySem.frameOf env; let pl ← entryPlaceOf f (head != .none); let b ← EntryCells.newEntry head a .none (rawInt f) .none pl; setField e 1 b) Q E p s := by
  rw [Sem.wp_bind']
  refine wp_frameOf hi he hf ?_
  unfold entryZ at h
  rw [Sem.wp_bind'] at h ⊢
  simp only [stack, Sem.wp] at h ⊢
  rw [Sem.wp_bind'] at h
  refine Sem.wp_mono M Γ _ (fun _ p' s' x => ?_) (fun _ _ _ x => x) p s h
  rw [Sem.wp_bind'] at x ⊢
  unfold entryPlaceOf
  rw [Sem.wp_bind']
  simp only [stack, Sem.wp] at x ⊢
  have z := placeZ_eq (p := p') (hn := head != .none) (below := Γ.below) hi he hf
  cases q : ((Γ.code, p') :: Γ.below).find? (fun (c, _) => c.env?.bind (·.frame) == some f) with
  | none => rw [q] at z; rw [Sem.wp_pure', show ([] : List Value) = _ from z]; exact x
  | some y => obtain ⟨y1, y2⟩ := y; rw [q] at z; dsimp only at z ⊢; rw [Sem.wp_pure', z]; exact x
theorem wp_note {Q : Unit → Pos → Shared → Prop} {E : Value → Pos → Shared → Prop} {p : Pos} {s : Shared} {e : Value} (hi : Γ.code.isFrame = true) (he : Γ.code.env? = some env)
    (h : wp M Γ (noteZ e env) Q E p s) : wp M Γ (noteFrame e env) Q E p s := by
  unfold noteZ at h
  unfold noteFrame
  cases hf : env.frame with
  | none => rw [hf] at h; exact h.elim
  | some f =>
    rw [hf] at h
    dsimp only at h ⊢
    rw [Sem.wp_bind'] at h ⊢
    refine Sem.wp_mono M Γ _ (fun head p' s' x => ?_) (fun _ _ _ x => x) p s h
    cases head with
    | none =>
      rw [if_neg (by decide)]
      exact wp_entry hi he hf x
    | ref t =>
      rw [if_pos (show ((Value.ref t != Value.none) = true) from by simp)]
      rw [Sem.wp_bind'] at x ⊢
      refine Sem.wp_mono M Γ _ (fun y p' s' x => ?_) (fun _ _ _ x => x) _ _ x
      cases y with
      | none =>
        rw [if_neg (show ¬ ((Value.none == rawInt f) = true) from by simp [rawInt])]
        dsimp only at x
        rw [Sem.wp_bind'] at x ⊢
        exact Sem.wp_mono M Γ _ (fun y p' s' x => wp_entry hi he hf x) (fun _ _ _ x => x) _ _ x
      | _ => exact x.elim
    | _ => exact x.elim
theorem wp_leave {Q : Unit → Pos → Shared → Prop} {E : Value → Pos → Shared → Prop} {p : Pos} {s : Shared} {e : Value} (hi : Γ.code.isFrame = true) (he : Γ.code.env? = some env)
    (h : wp M Γ (leaveZ env e) Q E p s) : wp M Γ (leaving env e) Q E p s := by
  unfold leaveZ at h
  unfold leaving
  rw [Sem.wp_bind'] at h ⊢
  exact wp_note hi he h
theorem wp_comps {Q : List Env → Pos → Shared → Prop} {E : Value → Pos → Shared → Prop} {p : Pos} {s : Shared} {b : List Stmt} (hc : Γ.code = .func b env) (h : Q [] p s) : wp M Γ comprehensionsAround Q E p s := by
  unfold comprehensionsAround callersCodes
  simp only [Sem.wp_bind', stack, Sem.wp, hc]
  have e : pastTheWaiting ((Code.func b env, p) :: Γ.below) = (Code.func b env, p) :: pastTheWaiting.go false (some (.func b env)) Γ.below := rfl
  rw [e]
  simp only [List.map_cons, List.findSome?_cons, Code.env?, Option.map_some, bne_self_eq_false]
  rw [if_neg (by decide)]
  exact h
theorem wp_base {Q : Value → Pos → Shared → Prop} {E : Value → Pos → Shared → Prop} {p : Pos} {s : Shared} {b : List Stmt} {id attr : Str} {np sp : Pos} {whole : Sem Value} (hc : Γ.code = .func b env)
    (h : wp M Γ (baseZ id sp attr env) Q E p s) : wp M Γ (attributeBase (.Call (.Name id np) [] [] sp) attr env whole) Q E p s := by
  unfold baseZ at h
  unfold attributeBase
  dsimp only
  cases hcond : (id != "super" || attr == "__class__" || env.kindOf "super" != some .globalImplicit || env.kindOf "__class__" != some .free) with
  | true => rw [hcond] at h; exact h.elim
  | false =>
    rw [hcond] at h
    rw [if_neg (by decide)]
    cases hf : env.func with
    | none => rw [hf] at h; exact h.elim
    | some f =>
      rw [hf] at h
      rw [if_pos (show (some f).isSome = true from rfl)]
      simp only [Sem.wp_bind', Sem.wp_pure', hf] at h ⊢
      have hk : ¬ ((env.kindOf "__class__" != some .free) = true) := by
        intro q
        rw [q] at hcond
        simp at hcond
      rw [if_neg hk]
      simp only [Sem.wp_bind'] at h ⊢
      refine Sem.wp_mono M Γ _ (fun fd p' s' x => ?_) (fun _ _ _ x => x) _ _ h
      cases hfst : (fd.params.posonlyargs ++ fd.params.args).head? with
      | none => rw [hfst] at x; exact x.elim
      | some first =>
        simp only [hfst] at x ⊢
        simp only [Sem.wp_bind', ask, Sem.wp] at x ⊢
        refine Sem.wp_mono M Γ _ (fun fl p' s' x => ?_) (fun _ _ _ x => x) _ _ x
        cases fl with
        | str file tok =>
          dsimp only at x ⊢
          cases hm : (M.prog.main.file == file) with
          | false => rw [hm] at x; exact x.elim
          | true =>
            rw [hm, Bool.true_and] at x
            rw [if_pos rfl]
            dsimp only at x ⊢
            cases hlk : List.lookup (Str.ofString "super") M.prog.main.scope.names with
            | some _ => rw [hlk] at x; exact x.elim
            | none =>
              rw [hlk] at x
              rw [if_neg (show ¬ ((none : Option NameKind).isSome = true) from by decide)]
              simp only [Option.isNone_none, Sem.wp_bind', rule, standAt, Sem.wp] at x ⊢
              refine Sem.wp_mono M Γ _ (fun g p' s' x => ?_) (fun _ _ _ x => x) _ _ x
              refine Sem.wp_mono M Γ _ (fun cls p' s' x => ?_) (fun _ _ _ x => x) _ _ x
              refine wp_comps hc ?_
              refine Sem.wp_mono M Γ _ (fun self p' s' x => ?_) (fun _ _ _ x => x) _ _ x
              refine Sem.wp_mono M Γ _ (fun aT p' s' x => ?_) (fun _ _ _ x => x) _ _ x
              cases hg : (g == Value.type "super" && aT) with
              | false => rw [hg] at x; exact x.elim
              | true => rw [hg] at x; rw [if_pos rfl]; exact x
        | _ => exact x.elim
theorem wp_execs {Q : Flow → Pos → Shared → Prop} {E : Value → Pos → Shared → Prop} {p : Pos} {s : Shared} {body b0 : List Stmt} (hc : Γ.code = .func b0 env)
    (h : wp M Γ (execsX body env) Q E p s) : wp M Γ (execs body env) Q E p s := by
  have hi : Γ.code.isFrame = true := by rw [hc]; rfl
  have he : Γ.code.env? = some env := by rw [hc]; rfl
  unfold execsX at h
  split at h
  · rename_i b hs pos
    unfold tryZ at h
    have e1 : execs [.Try b hs [] [] pos] env = (do match ← (do standAt pos; tryStmt false (execs b env) hs (execs [] env) [] env) with | .next => execs [] env | f => pure f) := rfl
    have e2 : execs [] env = pure .next := rfl
    rw [e1, e2]
    unfold tryStmt
    simp only [List.isEmpty_nil, if_true, Sem.wp_bind', standAt, Sem.wp, Sem.wp_attempt, Bool.false_and, Bool.false_eq_true, if_false] at h ⊢
    refine Sem.wp_mono M Γ _ (fun f p' s' x => ?_) (fun e p' s' x => ?_) _ _ h
    · cases f <;> (simp only [Sem.wp_pure'] at x ⊢; exact x)
    · refine wp_note hi he ?_
      refine Sem.wp_mono M Γ _ (fun _ p' s' x => ?_) (fun e p' s' x => x) _ _ x
      cases hq : hs.isEmpty with
      | true => rw [hq] at x; rw [if_pos rfl]; exact x
      | false =>
        rw [hq] at x
        rw [if_neg (by decide)]
        dsimp only at x
        rw [Sem.wp_bind'] at x ⊢
        refine Sem.wp_mono M Γ _ (fun _ p' s' x => ?_) (fun e p' s' x => x) _ _ x
        refine Sem.wp_mono M Γ _ (fun f p' s' x => ?_) (fun e p' s' x => x) _ _ x
        cases f <;> (first | exact x | (simp only [Sem.wp_pure']; exact x))
  · rename_i id np sp attr apos args kws pos epos rest
    have e1 : execs (.Expr (.Call (.Attribute (.Call (.Name id np) [] [] sp) attr apos) args kws pos) epos :: rest) env = (do match ← exec (.Expr (.Call (.Attribute (.Call (.Name id np) [] [] sp) attr apos) args kws pos) epos) env with | .next => execs rest env | f => pure f) := rfl
    rw [e1, arm_exec_Expr]
    unfold superZ at h
    simp only [Sem.wp_bind', standAt, Sem.wp] at h ⊢
    cases hI : interactive env with
    | true => rw [hI] at h; exact h.elim
    | false =>
      rw [hI] at h
      rw [if_neg (by decide)]
      simp only [Sem.wp_bind'] at h ⊢
      refine Sem.wp_mono M Γ _ (fun sw p' s' x => ?_) (fun _ _ _ x => x) _ _ h
      cases sw with
      | true => exact x.elim
      | false =>
        rw [if_neg (by decide)]
        rw [arm_eval_Call]
        simp only [Sem.wp_bind', standAt, Sem.wp] at x ⊢
        exact wp_base hc x
  · exact h
end
theorem denY_ok {M : Model} {Γ : PySem.Ctx} {Q : PySem.Fin → Pos → Shared → Prop} {E : Value → Pos → Shared → Prop} {p : Pos} {s : Shared} (c : Code) (hc : Γ.code = c)
    (h : wp M Γ (denY c) Q E p s) : wp M Γ (denote table c) Q E p s := by
  cases c with
  | func body env =>
    unfold denY at h
    simp only [denote]
    rw [Sem.wp_bind'] at h ⊢
    refine Sem.wp_mono M Γ _ (fun _ p' s' x => ?_) (fun e p' s' x => x) _ _ h
    rw [Sem.wp_bind', Sem.wp_onRaise] at x ⊢
    have hi : Γ.code.isFrame = true := by rw [hc]; rfl
    have he : Γ.code.env? = some env := by rw [hc]; rfl
    exact wp_execs hc (Sem.wp_mono M Γ _ (fun _ _ _ x => x) (fun e p' s' x => wp_leave hi he x) _ _ x)
  | expr e env =>
    unfold denY at h
    simp only [denote]
    rw [Sem.wp_bind'] at h ⊢
    refine Sem.wp_mono M Γ _ (fun _ p' s' x => ?_) (fun e p' s' x => x) _ _ h
    rw [Sem.wp_bind', Sem.wp_onRaise] at x ⊢
    have hi : Γ.code.isFrame = true := by rw [hc]; rfl
    have he : Γ.code.env? = some env := by rw [hc]; rfl
    exact Sem.wp_mono M Γ _ (fun _ _ _ x => x) (fun e p' s' x => wp_leave hi he x) _ _ x
  | _ => unfold denY at h; rw [← table_eq_tree] at h; exact h
noncomputable def around (Γ : PySem.Ctx) : Around := { handled := Γ.handled, depth := frameCount Γ.below, units := unitsOf Γ.below }
theorem around_below (Γ : PySem.Ctx) : Γ.Below (around Γ) := ⟨rfl, Nat.le_refl _, (fun l hl => by cases hl), (fun l hl => by cases hl), Nat.le_refl _⟩
theorem short_ok {xs ys : List Value} (h1 : xs.length ≤ 1000) (h2 : ys.length ≤ 1000) : ¬ (!(⟨xs⟩ : Array Value).isEmpty && Builtin.List.listTooLong ((⟨xs⟩ : Array Value).size + (⟨ys⟩ : Array Value).size)) = true := by
  have : Builtin.List.listTooLong (xs.length + ys.length) = false := by
    unfold Builtin.List.listTooLong
    simp
    first | omega | (rw [sizeLine_eq]; omega)
  show ¬ (_ && Builtin.List.listTooLong (xs.length + ys.length)) = true
  rw [this, Bool.and_false]
  exact Bool.false_ne_true
theorem hook_ok {prog : Program} {w : World} {Γ : PySem.Ctx} {R : Result → Shared → Prop} {p : Pos} {s : Shared} (c : Code) (hc : Γ.code = c) (z : Sem PySem.Fin) (hz : hookZ c = some z)
    (h : wp (model prog w) Γ z (Sem.finPost (model prog w) Γ R) (fun e _ s' => R (.error e) s') p s) : wpCode (model prog w) Γ R p s := by
  have get : ∀ {d : Addr} {x : Str}, wp (model prog w) Γ (getZ d x) (Sem.finPost (model prog w) Γ R) (fun e _ s' => R (.error e) s') p s → ∃ o v, s.heap.get? d = some o ∧ strDict o x = some v ∧ R (.ok (.ret v)) { s with toks := s.toks + 1 } := by
    intro d x h
    unfold getZ at h
    rw [Sem.wp_bind', Sem.wp_cmd_load] at h
    obtain ⟨o, ho, h⟩ := h
    cases hv : strDict o x with
    | none => rw [hv] at h; exact h.elim
    | some v => rw [hv] at h; exact ⟨o, v, ho, hv, h⟩
  have ext : ∀ {a b : Addr} {r : Value}, wp (model prog w) Γ (extZ a b r) (Sem.finPost (model prog w) Γ R) (fun e _ s' => R (.error e) s') p s → ∃ o1 o2 xs n1 ys n2, s.heap.get? a = some o1 ∧ s.heap.get? b = some o2 ∧ plainOf o1 = some (xs, n1) ∧ plainOf o2 = some (ys, n2) ∧
      R (.ok (.ret r)) { s with heap := s.heap.update a (Obj.mapSeq fun x => x ++ (⟨ys⟩ : Array Value)) } := by
    intro a b r h
    unfold extZ at h
    rw [Sem.wp_bind', Sem.wp_cmd_load] at h
    obtain ⟨o1, h1, h⟩ := h
    rw [Sem.wp_bind', Sem.wp_cmd_load] at h
    obtain ⟨o2, h2, h⟩ := h
    cases e1 : plainOf o1 with
    | none => rw [e1] at h; exact h.elim
    | some y1 =>
      rw [e1] at h
      cases e2 : plainOf o2 with
      | none => rw [e2] at h; exact h.elim
      | some y2 =>
        rw [e2] at h
        obtain ⟨xs, n1⟩ := y1
        obtain ⟨ys, n2⟩ := y2
        exact ⟨o1, o2, xs, n1, ys, n2, h1, h2, e1, e2, h.2⟩
  unfold hookZ at hz
  split at hz
  · rename_i id d x t
    split at hz
    · rename_i hid
      cases hz
      obtain ⟨o, v, ho, hv, h⟩ := get h
      rcases (Bool.or_eq_true _ _).mp hid with e | e
      · have : id = "dict.__getitem__" := by simpa using e
        subst this
        exact c_dgetitem (A := around Γ) ho hv h Γ p hc (around_below Γ)
      · have : id = "dict.get" := by simpa using e
        subst this
        exact c_dget (A := around Γ) ho hv h Γ p hc (around_below Γ)
    · cases hz
  · rename_i id d x t y
    split at hz
    · rename_i hid
      cases hz
      obtain ⟨o, v, ho, hv, h⟩ := get h
      have : id = "dict.get" := by simpa using hid
      subst this
      exact c_dget3 (A := around Γ) ho hv h Γ p hc (around_below Γ)
    · cases hz
  · rename_i id a b
    split at hz
    · rename_i hid
      cases hz
      have : id = "list.__ne__" := by simpa using hid
      subst this
      unfold neZ at h
      rw [Sem.wp_bind', Sem.wp_cmd_load] at h
      obtain ⟨o1, h1, h⟩ := h
      rw [Sem.wp_bind', Sem.wp_cmd_load] at h
      obtain ⟨o2, h2, h⟩ := h
      cases e1 : listOf o1 with
      | none => rw [e1] at h; exact h.elim
      | some xs =>
        rw [e1] at h
        cases e2 : listOf o2 with
        | none => rw [e2] at h; exact h.elim
        | some ys =>
          rw [e2] at h
          cases hx : (xs.all strV && ys.all strV) with
          | false => dsimp only at h; rw [hx] at h; exact h.elim
          | true =>
            dsimp only at h
            rw [hx] at h
            obtain ⟨hx1, hx2⟩ := Bool.and_eq_true_iff.mp hx
            exact c_lne (A := around Γ) h1 h2 e1 e2 hx1 hx2 h Γ p hc (around_below Γ)
    · split at hz
      · rename_i hid
        cases hz
        have : id = "list.extend" := by simpa using hid
        subst this
        obtain ⟨o1, o2, xs, n1, ys, n2, h1, h2, e1, e2, h⟩ := ext h
        obtain ⟨rfl, l1⟩ := plainOf_eq e1
        obtain ⟨rfl, l2⟩ := plainOf_eq e2
        have hT : s.TypeIs (.ref a) "list" := ⟨_, h1, rfl⟩
        exact code_meets (A := around Γ) F.slot_list_extend hT F.entry_list_extend (F.args_list_extend_2 _ _) (AutoSeq1.list_extend_list_list_0 a ⟨xs⟩ n1 b ⟨ys⟩ n2 (short_ok l1 l2) (by rw [sizeLine_eq]; exact Nat.le_trans l1 (by decide)) (by rw [sizeLine_eq]; exact Nat.le_trans (Nat.add_le_add l1 l2) (by decide))) ⟨h1, h2, h⟩ Γ p hc (around_below Γ)
      · cases hz
  · rename_i id a b
    split at hz
    · rename_i hid
      cases hz
      have : id = "list.__iadd__" := by simpa using hid
      subst this
      obtain ⟨o1, o2, xs, n1, ys, n2, h1, h2, e1, e2, h⟩ := ext h
      obtain ⟨rfl, l1⟩ := plainOf_eq e1
      obtain ⟨rfl, l2⟩ := plainOf_eq e2
      exact codeAny_builtin (A := around Γ) F.entry_list_iadd (by
        rw [Around.under_plainId F.plain_list_iadd _]
        exact AutoSeq1.list___iadd___list_list_0 a ⟨xs⟩ n1 b ⟨ys⟩ n2 (short_ok l1 l2) (by rw [sizeLine_eq]; exact Nat.le_trans l1 (by decide)) (by rw [sizeLine_eq]; exact Nat.le_trans (Nat.add_le_add l1 l2) (by decide)) prog w (around Γ) R s ⟨h1, h2, h⟩) Γ p hc (around_below Γ)
    · cases hz
  · cases hz
theorem denX_ok {prog : Program} {w : World} {Γ : PySem.Ctx} {R : Result → Shared → Prop} {p : Pos} {s : Shared} (c : Code) (hc : Γ.code = c)
    (h : wp (model prog w) Γ (denX c) (Sem.finPost (model prog w) Γ R) (fun e _ s' => R (.error e) s') p s) : wpCode (model prog w) Γ R p s := by
  unfold denX at h
  cases hz : hookZ c with
  | some z => rw [hz] at h; exact hook_ok c hc z hz h
  | none =>
    rw [hz] at h
    rw [wpCode_iff_wp, hc]
    exact denY_ok c hc h

/-! ## what a state means -/
structure VB extends VX where
  h₀ : Heap
  M : List Nat
  R₀ : Result → Shared → Prop
  d : Drawn
  os : OsState
noncomputable def VB.mod (V : VB) : Model := model V.prog V.w
noncomputable def endX (V : VB) : KX → Result → Shared → Prop
  | [] => V.R₀
  | (c, _, p, k) :: κ => fun r s => wp V.mod (ctxX V.Γ κ c) (k r) (Sem.finPost V.mod (ctxX V.Γ κ c) (endX V κ)) (fun e _ s' => endX V κ (.error e) s') p s
noncomputable def MeanX (V : VB) (c : Code) (κ : KX) (t : Sem PySem.Fin) (p : Pos) (s : Shared) : Prop :=
  wp V.mod (ctxX V.Γ κ c) t (Sem.finPost V.mod (ctxX V.Γ κ c) (endX V κ)) (fun e _ s' => endX V κ (.error e) s') p s
noncomputable def GoX (V : VB) (S : SX) : Prop := ∀ h, Rep V.toWs V.h₀ V.M S.T S.nx h → MeanX V S.c S.κ S.t S.p ⟨h, #[], V.d, S.tk, V.os⟩
noncomputable def FineX (V : VB) (O : OX) : Prop := O.ok = true ∧ eqsOk O.eqs ∧ GoX V O.st
theorem actX_sound {V : VB} (hg : V.g1 ≤ V.g2) {go : Nat → List (Nat × Nat) → SX → OX} (ih : ∀ cs eqs S, FineX V (go cs eqs S) → eqsOk eqs ∧ GoX V S) (cs : Nat) (eqs : List (Nat × Nat)) (S : SX) (x : FineX V (actX denX V.toVX go cs eqs S)) : eqsOk eqs ∧ GoX V S := by
  obtain ⟨c, κ, t, p, T, m, nx, tk⟩ := S
  cases t with
  | pure fin =>
    cases fin with
    | done f => cases κ with
      | nil => cases x.1
      | cons y κ => exact ⟨(ih _ _ _ x).1, fun h D => (ih _ _ _ x).2 h D⟩
    | again c' =>
      have x : FineX V (match c'.quiet with | true => go cs eqs ⟨c', κ, denX c', p, T, m, nx, tk⟩ | false => ⟨false, eqs, ⟨c, κ, .pure (.again c'), p, T, m, nx, tk⟩⟩) := x
      cases q : c'.quiet with
      | false => rw [q] at x; cases x.1
      | true =>
        rw [q] at x
        refine ⟨(ih _ _ _ x).1, fun h D => ?_⟩
        show Sem.finPost V.mod _ _ (.again c') p _
        refine ⟨q, ?_⟩
        rw [ctxX_goto]
        exact denX_ok c' (ctxX_code _ _ _) ((ih _ _ _ x).2 h D)
  | raise e => cases κ with
    | nil => cases x.1
    | cons y κ => exact ⟨(ih _ _ _ x).1, fun h D => (ih _ _ _ x).2 h D⟩
  | rule tag k => exact ⟨(ih _ _ _ x).1, fun h D => (ih _ _ _ x).2 h D⟩
  | «at» q k => exact ⟨(ih _ _ _ x).1, fun h D => (ih _ _ _ x).2 h D⟩
  | point l k => exact ⟨(ih _ _ _ x).1, fun h D => (ih _ _ _ x).2 h D⟩
  | ask k => exact ⟨(ih _ _ _ x).1, fun h D => (ih _ _ _ x).2 h D⟩
  | fresh k => exact ⟨(ih _ _ _ x).1, fun h D => (ih _ _ _ x).2 h D⟩
  | handled own k => exact ⟨(ih _ _ _ x).1, fun h D => (ih _ _ _ x).2 h D⟩
  | thread k => exact ⟨(ih _ _ _ x).1, fun h D => (ih _ _ _ x).2 h D⟩
  | stack k =>
    refine ⟨(ih _ _ _ x).1, fun h D => ?_⟩
    show wp V.mod _ (k (((ctxX V.Γ κ c).code, p) :: (ctxX V.Γ κ c).below)) _ _ p _
    rw [ctxX_code]
    exact (ih _ _ _ x).2 h D
  | load a q k =>
    have x : FineX V (match lookZ V.kt T (cs % 512) a with | some x => go (cs / 512) (pushE a x.1 eqs) ⟨c, κ, k x.2, p, T, m, nx, tk⟩ | none => ⟨false, eqs, ⟨c, κ, .load a q k, p, T, m, nx, tk⟩⟩) := x
    cases g : lookZ V.kt T (cs % 512) a with
    | none => rw [g] at x; cases x.1
    | some y =>
      rw [g] at x
      have z := ih _ _ _ x
      exact ⟨push_ok z.1, fun h D => ⟨y.2, look_ok D g z.1, z.2 h D⟩⟩
  | loadIfAlive a k =>
    have x : FineX V (match lookZ V.kt T (cs % 512) a with | some x => go (cs / 512) (pushE a x.1 eqs) ⟨c, κ, k (some x.2), p, T, m, nx, tk⟩ | none => ⟨false, eqs, ⟨c, κ, .loadIfAlive a k, p, T, m, nx, tk⟩⟩) := x
    cases g : lookZ V.kt T (cs % 512) a with
    | none => rw [g] at x; cases x.1
    | some y =>
      rw [g] at x
      have z := ih _ _ _ x
      refine ⟨push_ok z.1, fun h D => ?_⟩
      show wp V.mod _ (k (h.get? a)) _ _ p _
      rw [look_ok D g z.1]
      exact z.2 h D
  | alloc o k =>
    have x : FineX V (match allocZ V.g2 m T o with | false => ⟨false, eqs, ⟨c, κ, .alloc o k, p, T, m, nx, tk⟩⟩ | true => objK o fun o' => T.putK m nx o' fun T' => match T'.get m with | some _ => go cs eqs ⟨c, κ, k nx, p, T', m + 1, nx + 1, tk⟩ | none => ⟨false, eqs, ⟨c, κ, .alloc o k, p, T, m, nx, tk⟩⟩) := x
    cases g : allocZ V.g2 m T o with
    | false => rw [g] at x; cases x.1
    | true =>
      rw [g] at x
      obtain ⟨hf, hb, hm⟩ := alloc_ok g
      have x : FineX V (objK o fun o' => T.putK m nx o' fun T' => match T'.get m with | some _ => go cs eqs ⟨c, κ, k nx, p, T', m + 1, nx + 1, tk⟩ | none => ⟨false, eqs, ⟨c, κ, .alloc o k, p, T, m, nx, tk⟩⟩) := x
      rw [objK_eq, LT.putK_eq] at x
      cases hp : (T.put m nx o).get m with
      | none => rw [hp] at x; cases x.1
      | some y =>
        rw [hp] at x
        have z := ih _ _ _ x
        refine ⟨z.1, fun h D => ?_⟩
        show wp V.mod _ (k h.objs.size) _ _ p _
        rw [D.size]
        exact z.2 (h.push o) (D.alloc hf hb (Nat.not_lt.mpr (Nat.le_trans hg hb)) (by rw [hp]; rfl) hm)
  | update a q f k =>
    have x : FineX V (match updZ V.g1 V.g2 (cs % 512) T f with | some x => objK (f x.2.2) fun o => T.putK x.1 x.2.1 o fun T' => go (cs / 512) ((a, x.2.1) :: eqs) ⟨c, κ, k (), p, T', m, nx, tk⟩ | none => ⟨false, eqs, ⟨c, κ, .update a q f k, p, T, m, nx, tk⟩⟩) := x
    cases g : updZ V.g1 V.g2 (cs % 512) T f with
    | none => rw [g] at x; cases x.1
    | some y =>
      rw [g] at x
      have x : FineX V (objK (f y.2.2) fun o => T.putK y.1 y.2.1 o fun T' => go (cs / 512) ((a, y.2.1) :: eqs) ⟨c, κ, k (), p, T', m, nx, tk⟩) := x
      rw [objK_eq, LT.putK_eq] at x
      obtain ⟨e, hf, hb⟩ := upd_ok g
      have z := ih _ _ _ x
      have hab : a = y.2.1 := z.1.1
      subst hab
      exact ⟨z.1.2, fun h D => ⟨by show (h.get? y.2.1).isSome = true; rw [D.own _ _ _ e]; rfl, z.2 (h.update y.2.1 f) (D.update e hf hb)⟩⟩
  | call c' hd g l k => exact ⟨(ih _ _ _ x).1, fun h D => denX_ok c' rfl ((ih _ _ _ x).2 h D)⟩
  | _ => cases x.1
theorem runX_fine {V : VB} (hg : V.g1 ≤ V.g2) : ∀ (n cs : Nat) (eqs : List (Nat × Nat)) (S : SX), FineX V (runX denX V.toVX n cs eqs S) → eqsOk eqs ∧ GoX V S
  | 0, _, _, _, x => x.2
  | n + 1, cs, eqs, S, x => actX_sound hg (runX_fine hg n) cs eqs S x
theorem runX_sound {V : VB} (hg : V.g1 ≤ V.g2) (n cs : Nat) (eqs : List (Nat × Nat)) (S : SX) (h1 : (runX denX V.toVX n cs eqs S).ok = true) (h2 : eqsOk (runX denX V.toVX n cs eqs S).eqs) (h3 : GoX V (runX denX V.toVX n cs eqs S).st) : GoX V S :=
  (runX_fine hg n cs eqs S ⟨h1, h2, h3⟩).2
noncomputable def runXX := runX denX
lay_quick Mine.runXX Mine.denX
end Mine
end
section
namespace Mine
open Sem (wp)
@[irreducible] noncomputable def rX : VX → Nat → Nat → List (Nat × Nat) → SX → OX := PySem.W.Fast.tw6446763783797842414
@[irreducible] noncomputable def dX : Code → Sem PySem.Fin := PySem.W.Fast.tw152967731841243365
theorem rX_eq : runX denX = rX := by unfold rX; exact PySem.W.Fast.te6446763783797842414
theorem dX_eq : denX = dX := by unfold dX; exact PySem.W.Fast.te152967731841243365
theorem sx {V : VB} (hg : V.g1 ≤ V.g2) (n cs : Nat) {S : SX} (h1 : (rX V.toVX n cs [] S).ok = true)
    (h2 : (rX V.toVX n cs [] S).eqs.map Prod.fst = (rX V.toVX n cs [] S).eqs.map Prod.snd) (h3 : GoX V (rX V.toVX n cs [] S).st) : GoX V S := by
  have z := runX_sound (V := V) hg n cs [] S
  rw [rX_eq] at z
  exact z h1 (eqsOk_of h2) h3
theorem GoX.tree {V : VB} {S : SX} (t : Sem PySem.Fin) (e : S.t = t) (h : GoX V ⟨S.c, S.κ, t, S.p, S.T, S.m, S.nx, S.tk⟩) : GoX V S := by
  obtain ⟨c, κ, t', p, T, m, nx, tk⟩ := S
  cases e
  exact h
theorem GoX.done {V : VB} {S : SX} (f : Flow) (hκ : S.κ = []) (e : S.t = .pure (.done f)) (h : ∀ h', Rep V.toWs V.h₀ V.M S.T S.nx h' → V.R₀ (.ok f) ⟨h', #[], V.d, S.tk, V.os⟩) : GoX V S := by
  obtain ⟨c, κ, t', p, T, m, nx, tk⟩ := S
  cases hκ
  cases e
  intro h' D
  exact h h' D
theorem GoX.raise {V : VB} {S : SX} (v : Value) (hκ : S.κ = []) (e : S.t = .raise v) (h : ∀ h', Rep V.toWs V.h₀ V.M S.T S.nx h' → V.R₀ (.error v) ⟨h', #[], V.d, S.tk, V.os⟩) : GoX V S := by
  obtain ⟨c, κ, t', p, T, m, nx, tk⟩ := S
  cases hκ
  cases e
  intro h' D
  exact h h' D
/-- a call of what is known by a contract for all surroundings -/
theorem GoX.call {V : VB} {S : SX} (c' : Code) (hd : Option Value) (e : callIs S.t = some (c', hd)) (A : Around) (hA : (A.frames.isNone && A.guards.isNone) = true)
    (hB : (decide (((ctxX V.Γ S.κ S.c).enter c' hd S.p).handled = A.handled) && Nat.ble (frameCount ((ctxX V.Γ S.κ S.c).enter c' hd S.p).below) A.depth && Nat.ble (unitsOf ((ctxX V.Γ S.κ S.c).enter c' hd S.p).below) A.units) = true)
    (h : ∀ h', Rep V.toWs V.h₀ V.M S.T S.nx h' → codeAny V.mod A c' (fun r s' => MeanX V S.c S.κ (callK S.t r) S.p s') ⟨h', #[], V.d, S.tk, V.os⟩) : GoX V S := by
  obtain ⟨c, κ, t, p, T, m, nx, tk⟩ := S
  cases t <;> cases e
  intro h' D
  obtain ⟨hA1, hA2⟩ := Bool.and_eq_true_iff.mp hA
  obtain ⟨hB, h3⟩ := Bool.and_eq_true_iff.mp hB
  obtain ⟨h1, h2⟩ := Bool.and_eq_true_iff.mp hB
  rw [Option.isNone_iff_eq_none] at hA1 hA2
  have hb : ((ctxX V.Γ κ c).enter c' hd p).Below A := by
    refine ⟨of_decide_eq_true h1, Nat.le_of_ble_eq_true h2, ?_, ?_, Nat.le_of_ble_eq_true h3⟩
    · intro l hl; rw [hA1] at hl; cases hl
    · intro l hl; rw [hA2] at hl; cases hl
  exact h h' D ((ctxX V.Γ κ c).enter c' hd p) p rfl hb
noncomputable def AX : Around := { depth := 500, units := 500 }
theorem GoX.callP {V : VB} {S : SX} (c' : Code) (hd : Option Value) (e : callIs S.t = some (c', hd))
    (hB : (decide (((ctxX V.Γ S.κ S.c).enter c' hd S.p).handled = none) && Nat.ble (frameCount ((ctxX V.Γ S.κ S.c).enter c' hd S.p).below) 500 && Nat.ble (unitsOf ((ctxX V.Γ S.κ S.c).enter c' hd S.p).below) 500) = true) (r : Nat → Result) (dt : Nat)
    (h : ∀ h' R, Rep V.toWs V.h₀ V.M S.T S.nx h' → R (r S.tk) ⟨h', #[], V.d, S.tk + dt, V.os⟩ → codeAny V.mod AX c' R ⟨h', #[], V.d, S.tk, V.os⟩)
    (next : GoX V ⟨S.c, S.κ, callK S.t (r S.tk), S.p, S.T, S.m, S.nx, S.tk + dt⟩) : GoX V S :=
  GoX.call c' hd e AX rfl hB fun h' D => h h' _ D (next h' D)
theorem GoX.from {V : VB} {c : Code} {κ : KX} {t : Sem PySem.Fin} {p : Pos} {T : LT} (m : Nat) {nx tk : Nat} {h : Heap} (G : GoX V ⟨c, κ, t, p, T, m, nx, tk⟩) (D : Rep V.toWs V.h₀ V.M T nx h) : MeanX V c κ t p ⟨h, #[], V.d, tk, V.os⟩ := G h D
/-- a call that is walked by itself: what comes behind is put away -/
noncomputable def VB.push (V : VB) (S : SX) (c' : Code) (hd : Option Value) : VB := { V with Γ := (ctxX V.Γ S.κ S.c).enter c' hd S.p, R₀ := fun r s' => MeanX V S.c S.κ (callK S.t r) S.p s' }
theorem GoX.callX {V : VB} {S : SX} (c' : Code) (hd : Option Value) (e : callIs S.t = some (c', hd)) (h : GoX (V.push S c' hd) ⟨c', [], dX c', S.p, S.T, S.m, S.nx, S.tk⟩) : GoX V S := by
  obtain ⟨c, κ, t, p, T, m, nx, tk⟩ := S
  cases t <;> cases e
  intro h' D
  have z := h h' D
  rw [← dX_eq] at z
  show wpCode V.mod ((ctxX V.Γ κ c).enter c' hd p) _ p _
  exact denX_ok c' rfl z
/-- in the other shape: to a state whose context is given -/
theorem GoX.enter {V : VB} {c : Code} {p : Pos} {T : LT} {m tk : Nat} (D : Rep V.toWs V.h₀ V.M T V.h₀.objs.size V.h₀) (hΓ : V.Γ.code = c) (G : GoX V ⟨c, [], dX c, p, T, m, V.h₀.objs.size, tk⟩) :
    wpCode V.mod V.Γ V.R₀ p ⟨V.h₀, #[], V.d, tk, V.os⟩ := by
  have z := G V.h₀ D
  rw [← dX_eq] at z
  have e : ctxX V.Γ [] c = V.Γ := by subst hΓ; rfl
  have z : wpCode V.mod (ctxX V.Γ [] c) V.R₀ p _ := denX_ok c (ctxX_code _ _ _) z
  rw [e] at z
  exact z

/-! ## the ledger cut down to what is still asked for -/
noncomputable def LT.lt : LT → Nat → Bool
  | .nil, _ => true
  | .node _ _ l r, n => Nat.blt 0 n && l.lt (n / 2) && r.lt ((n - 1) / 2)
theorem LT.lt_of : ∀ (T : LT) (n : Nat), T.lt n = true → ∀ i a o, T.get i = some (a, o) → i < n
  | .nil, _, _, i, a, o, e => by cases e
  | .node b x l r, n, h, i, a, o, e => by
    unfold LT.lt at h
    obtain ⟨h, h3⟩ := Bool.and_eq_true_iff.mp h
    obtain ⟨h1, h2⟩ := Bool.and_eq_true_iff.mp h
    have h1 : 0 < n := by
      have := Nat.le_of_ble_eq_true h1
      omega
    rw [LT.get_node] at e
    by_cases h0 : i = 0
    · omega
    · rw [if_neg h0] at e
      by_cases p : i % 2 = 1
      · rw [if_pos p] at e
        have := LT.lt_of l _ h2 _ _ _ e
        omega
      · rw [if_neg p] at e
        have := LT.lt_of r _ h3 _ _ _ e
        omega
noncomputable def sameSide (V : Ws) : List Nat → Nat → Bool
  | [], _ => true
  | j :: js, i => (Nat.blt i V.g1 == Nat.blt j V.g1) && (Nat.ble V.g2 i == Nat.ble V.g2 j) && sameSide V js (i + 1)
theorem sameSide_of {V : Ws} : ∀ (js : List Nat) (i : Nat), sameSide V js i = true → ∀ k j, js[k]? = some j → Nat.blt (i + k) V.g1 = Nat.blt j V.g1 ∧ Nat.ble V.g2 (i + k) = Nat.ble V.g2 j
  | [], _, _, k, j, e => by simp at e
  | x :: js, i, h, k, j, e => by
    unfold sameSide at h
    obtain ⟨h, h3⟩ := Bool.and_eq_true_iff.mp h
    obtain ⟨h1, h2⟩ := Bool.and_eq_true_iff.mp h
    cases k with
    | zero =>
      have : x = j := by simpa using e
      subst this
      exact ⟨by simpa using h1, by simpa using h2⟩
    | succ k =>
      have := sameSide_of js (i + 1) h3 k j (by simpa using e)
      rw [show i + (k + 1) = i + 1 + k by omega]
      exact this
noncomputable def LT.rows (T : LT) : Nat → Nat → List (Option (Nat × Obj))
  | 0, _ => []
  | n + 1, i => T.get i :: T.rows n (i + 1)
theorem LT.rows_get (T : LT) : ∀ (n i k : Nat), k < n → (T.rows n i)[k]? = some (T.get (i + k))
  | 0, _, _, h => absurd h (Nat.not_lt_zero _)
  | n + 1, i, 0, _ => rfl
  | n + 1, i, k + 1, h => by
    show (T.rows n (i + 1))[k]? = _
    rw [LT.rows_get T n (i + 1) k (Nat.lt_of_succ_lt_succ h), show i + 1 + k = i + (k + 1) by omega]
theorem Rep.cut {V : Ws} {h₀ h : Heap} {M : List Nat} {T : LT} {nx : Nat} (D : Rep V h₀ M T nx h) (js : List Nat) (T' : LT) (hl : T'.lt js.length = true) (hm : T'.rows js.length 0 = js.map T.get) (hn : js.Nodup) (hc : sameSide V js 0 = true) :
    Rep V h₀ M T' nx h := by
  have key : ∀ i a o, T'.get i = some (a, o) → ∃ j, js[i]? = some j ∧ T.get j = some (a, o) := fun i a o e => by
    have hi := LT.lt_of _ _ hl _ _ _ e
    have z := LT.rows_get T' js.length 0 i hi
    rw [hm, Nat.zero_add, e, List.getElem?_map] at z
    obtain ⟨j, hj⟩ : ∃ j, js[i]? = some j := ⟨js[i], List.getElem?_eq_getElem hi⟩
    rw [hj] at z
    exact ⟨j, hj, by simpa using z⟩
  refine ⟨D.size, fun i a o e => ?_, fun i i' a o o' e e' => ?_, fun i a o e => ?_, D.known, fun i a o e hi => ?_, fun i a o e hi => ?_, D.keep, D.more, fun p hp => ⟨(D.xs p hp).1, fun i a o e => ?_⟩⟩
  · obtain ⟨j, _, e⟩ := key _ _ _ e; exact D.own _ _ _ e
  · obtain ⟨j, hj, e⟩ := key _ _ _ e
    obtain ⟨j', hj', e'⟩ := key _ _ _ e'
    have hjj := D.one _ _ _ _ _ e e'
    subst hjj
    obtain ⟨h1, h2⟩ := List.getElem?_eq_some_iff.mp hj
    obtain ⟨h3, h4⟩ := List.getElem?_eq_some_iff.mp hj'
    have q := List.pairwise_iff_getElem.mp hn
    rcases Nat.lt_trichotomy i i' with x | x | x
    · exact absurd (h2.trans h4.symm) (q i i' h1 h3 x)
    · exact x
    · exact absurd (h4.trans h2.symm) (q i' i h3 h1 x)
  · obtain ⟨j, _, e⟩ := key _ _ _ e; exact D.off _ _ _ e
  · obtain ⟨j, hj, e⟩ := key _ _ _ e
    have z := (sameSide_of js 0 hc i j hj).1
    rw [Nat.zero_add] at z
    refine D.may _ _ _ e (Nat.le_of_ble_eq_true (z.symm.trans (Nat.ble_eq_true_of_le hi)))
  · obtain ⟨j, hj, e⟩ := key _ _ _ e
    have z := (sameSide_of js 0 hc i j hj).2
    rw [Nat.zero_add] at z
    exact D.new _ _ _ e (Nat.le_of_ble_eq_true (z.symm.trans (Nat.ble_eq_true_of_le hi)))
  · obtain ⟨j, _, e⟩ := key _ _ _ e; exact (D.xs p hp).2 _ _ _ e
/-- to a state of a given form -/
theorem GoX.cut {V : VB} {S : SX} (js : List Nat) (S' : SX) (hc : S.c = S'.c) (hκ : S.κ = S'.κ) (ht : S.t = S'.t) (hp : S.p = S'.p) (hnx : S.nx = S'.nx) (htk : S.tk = S'.tk)
    (hl : S'.T.lt js.length = true) (hm : S'.T.rows js.length 0 = js.map S.T.get) (hn : js.Nodup) (hs : sameSide V.toWs js 0 = true) (h : GoX V S') : GoX V S := by
  intro h' D
  have D' := D.cut js S'.T hl hm hn hs
  rw [hnx] at D'
  have z := h h' D'
  rw [hc, hκ, ht, hp, htk]
  exact z
end Mine
end
section
namespace Mine
open PySem.Builtin PySem.Builtin.Str PySem.StrLaws
/-- texts joined by one sign -/
noncomputable def joinC (c : Nat) : List (List Nat) → List Nat
  | [] => []
  | [p] => p
  | p :: q :: r => p ++ c :: joinC c (q :: r)
noncomputable def posC (c : Nat) : Nat → List Nat → List Nat
  | _, [] => []
  | o, a :: l => if a = c then o :: posC c (o + 1) l else posC c (o + 1) l
theorem occ_go (c : Nat) (s : Str) : ∀ (r : List Nat) (o free : Nat) (found : Array Nat), s.cps.toList.drop o = r → o ≤ s.length → free ≤ o → found.size ≤ o →
    (forIn (List.range' o (r.length + 1)) (found, free) (occBody s ⟨#[c]⟩ s.length (s.length + 1))).run.fst.toList = found.toList ++ posC c o r
  | [], o, free, found, hr, ho, hf, hn => by
    have hlen : s.length ≤ o := by
      have := congrArg List.length hr
      simp [Str.length] at this ⊢
      omega
    rw [show List.range' o (([] : List Nat).length + 1) = [o] from rfl, List.forIn_cons]
    unfold occBody
    rw [if_neg (by
      rintro ⟨⟨_, h⟩, _⟩
      have : o + 1 ≤ s.length := h
      omega)]
    simp [posC]
  | a :: r, o, free, found, hr, ho, hf, hn => by
    have hg : s.cps.toList[o]? = some a := by
      have : (s.cps.toList.drop o)[0]? = some a := by rw [hr]; rfl
      simpa using this
    have hlt : o < s.length := by
      obtain ⟨h, _⟩ := List.getElem?_eq_some_iff.mp hg
      simpa [Str.length] using h
    have hr' : s.cps.toList.drop (o + 1) = r := by
      rw [← List.drop_drop, hr]; rfl
    have key := subAt_one s c o
    rw [show List.range' o ((a :: r).length + 1) = o :: List.range' (o + 1) (r.length + 1) from by rw [List.length_cons, List.range'_succ], List.forIn_cons]
    unfold occBody
    by_cases h : a = c
    · have hk := key.mpr (by rw [hg, h])
      rw [if_pos ⟨⟨⟨by show found.size < s.length + 1; omega, hf⟩, hk.1⟩, hk.2⟩]
      have z := occ_go c s r (o + 1) (o + 1) (found.push o) hr' (by omega) (by omega) (by rw [Array.size_push]; omega)
      refine Eq.trans z ?_
      simp [posC, h]
    · rw [if_neg (by
        rintro ⟨⟨_, h1⟩, h2⟩
        have := key.mp ⟨h1, h2⟩
        rw [hg] at this
        exact h (by simpa using this))]
      have z := occ_go c s r (o + 1) free found hr' (by omega) (by omega) (by omega)
      refine Eq.trans z ?_
      simp [posC, h]
theorem occ_pos (c : Nat) (l : List Nat) : occurrences ⟨⟨l⟩⟩ ⟨#[c]⟩ 0 (⟨⟨l⟩⟩ : Str).length ((⟨⟨l⟩⟩ : Str).length + 1) = posC c 0 l := by
  rw [occ_eq]
  have := occ_go c ⟨⟨l⟩⟩ l 0 0 #[] rfl (Nat.zero_le _) (Nat.le_refl _) (Nat.zero_le _)
  simpa [Str.length] using this
theorem posC_free {c : Nat} : ∀ (p : List Nat) (o : Nat), c ∉ p → posC c o p = []
  | [], _, _ => rfl
  | a :: p, o, h => by
    rw [posC, if_neg (fun e => h (by simp [e]))]
    exact posC_free p (o + 1) fun hm => h (by simp [hm])
theorem posC_part {c : Nat} : ∀ (p : List Nat) (o : Nat) (r : List Nat), c ∉ p → posC c o (p ++ c :: r) = (o + p.length) :: posC c (o + p.length + 1) r
  | [], o, r, _ => by simp [posC]
  | a :: p, o, r, h => by
    rw [List.cons_append, posC, if_neg (fun e => h (by simp [e])), posC_part p (o + 1) r fun hm => h (by simp [hm])]
    simp only [List.length_cons]
    rw [show o + 1 + p.length = o + (p.length + 1) by omega]
theorem parts_go {c : Nat} {s : Str} : ∀ (ps : List (List Nat)) (o : Nat), ps ≠ [] → (∀ p ∈ ps, c ∉ p) → s.cps.toList.drop o = joinC c ps →
    ((o :: (posC c o (joinC c ps)).map (· + 1)).zip (posC c o (joinC c ps) ++ [s.length])).map (fun (x : Nat × Nat) => strSub s x.1 x.2) = ps.map fun p => (⟨⟨p⟩⟩ : Str)
  | [], _, h, _, _ => absurd rfl h
  | [p], o, _, hc, hs => by
    rw [show joinC c [p] = p from rfl] at hs ⊢
    rw [posC_free p o (hc p (by simp))]
    show [strSub s o s.length] = [⟨⟨p⟩⟩]
    have : strSub s o s.length = ⟨⟨p⟩⟩ := by
      unfold strSub
      congr 1
      apply Array.toList_inj.mp
      simp only [Array.toList_extract, List.extract_eq_take_drop]
      rw [hs, List.take_of_length_le]
      have := congrArg List.length hs
      simp [Str.length] at this ⊢
      omega
    rw [this]
  | p :: q :: r, o, _, hc, hs => by
    rw [show joinC c (p :: q :: r) = p ++ c :: joinC c (q :: r) from rfl] at hs ⊢
    rw [posC_part p o _ (hc p (by simp))]
    have hs' : s.cps.toList.drop (o + p.length + 1) = joinC c (q :: r) := by
      rw [show o + p.length + 1 = o + (p.length + 1) by omega, ← List.drop_drop, hs]
      simp
    have z := parts_go (q :: r) (o + p.length + 1) (by simp) (fun p' h' => hc p' (List.mem_cons_of_mem _ h')) hs'
    have e : strSub s o (o + p.length) = ⟨⟨p⟩⟩ := by
      unfold strSub
      congr 1
      apply Array.toList_inj.mp
      simp only [Array.toList_extract, List.extract_eq_take_drop]
      rw [hs, show o + p.length - o = p.length by omega]
      simp
    rw [List.map_cons, List.cons_append, List.zip_cons_cons, List.map_cons, List.map_cons, z]
    exact congrArg (· :: _) e
theorem split_join {c : Nat} (ps : List (List Nat)) (hne : ps ≠ []) (hc : ∀ p ∈ ps, c ∉ p) :
    partsBetween ⟨⟨joinC c ps⟩⟩ (occurrences ⟨⟨joinC c ps⟩⟩ ⟨#[c]⟩ 0 (⟨⟨joinC c ps⟩⟩ : Str).length ((⟨⟨joinC c ps⟩⟩ : Str).length + 1)) 1 = ps.map fun p => (⟨⟨p⟩⟩ : Str) := by
  rw [occ_pos]
  exact parts_go (s := ⟨⟨joinC c ps⟩⟩) ps 0 hne hc rfl
theorem glued_join (c : Nat) : ∀ (ps : List (List Nat)), ps ≠ [] → glued ⟨#[c]⟩ (ps.map fun p => (⟨⟨p⟩⟩ : Str)) = ⟨⟨joinC c ps⟩⟩
  | [], h => absurd rfl h
  | p :: ps, _ => by
    have key : ∀ (ps : List (List Nat)) (p : List Nat), ((ps.map fun p => (⟨⟨p⟩⟩ : Str)).foldl (fun acc q => acc ++ #[c] ++ q.cps) (⟨p⟩ : Array Nat)) = ⟨joinC c (p :: ps)⟩ := by
      intro ps
      induction ps with
      | nil => intro p; rfl
      | cons q r ih =>
        intro p
        rw [List.map_cons, List.foldl_cons]
        have e : (⟨p⟩ : Array Nat) ++ #[c] ++ (⟨q⟩ : Array Nat) = ⟨p ++ c :: q⟩ := by simp
        rw [e, ih (p ++ c :: q)]
        cases r <;> simp [joinC]
    unfold glued
    rw [List.map_cons]
    exact congrArg Str.mk (key ps p)
end Mine
end
section
namespace Mine
open PySem.Builtin PySem.Builtin.Str
section
variable {prog : Program} {w : World} {A : Around} {s : Shared} {R : Result → Shared → Prop}
noncomputable def itext (k : Int) : Str := ((toString k : String) : Str)
theorem c_repr {k : Int} {t : Tok} (hk : k.natAbs < 1000) (h : R (.ok (.ret (.str (itext k) s.toks))) { s with toks := s.toks + 1 }) :
    codeAny (model prog w) A (.call (.builtin "int.__repr__") ⟨[.int k t], []⟩) R s := by
  refine code_slot F.slot_int_repr (typeIs_int s k t) F.entry_int_repr (F.args_int_repr_1 _) ?_
  unfold Builtin.«int.__repr__»
  show wpAny _ _ (do let r ← Builtin.overDigitLimit? k; _) _ _ s
  have hlog : k.natAbs.log2 < 1920 := by
    have : k.natAbs.log2 ≤ k.natAbs := Nat.log2_le_self _
    omega
  refine wpAny_bind ?_
  unfold Builtin.overDigitLimit?
  rw [if_pos hlog]
  refine wpAny_pure ?_
  exact wpAny_bind (wpAny_mkStr (wpAny_pure ⟨_, rfl, h⟩) (int_text_fits10 (Nat.lt_of_lt_of_le hk (by
    rw [show (1000 : Nat) = 10 ^ 3 from rfl]
    exact Nat.pow_le_pow_right (by decide) (by decide)))))
theorem c_add {x y : Str} {t u : Tok} (hx : (x.length == 0) = false) (hy : (y.length == 0) = false) (hl : x.length + y.length ≤ 1000) (h : R (.ok (.ret (.str (x ++ y) s.toks))) { s with toks := s.toks + 1 }) :
    codeAny (model prog w) A (.call (.builtin "str.__add__") ⟨[.str x t, .str y u], []⟩) R s := by
  refine code_meets F.slot_str_add (typeIs_str s x t) F.entry_str_add (F.args_str_add_2 _ _) (gives_str_add x y t u).meets ?_
  show Made.post _ _ _
  rw [if_neg (by rw [hx]; exact Bool.false_ne_true), if_neg (by rw [hy]; exact Bool.false_ne_true)]
  refine ⟨?_, h⟩
  have : (x ++ y).length = x.length + y.length := by
    show (x.cps ++ y.cps).size = _
    rw [Array.size_append]; rfl
  rw [this, sizeLine_eq]
  omega
theorem c_strne {x : Str} {t u : Tok} (h : R (.ok (.ret (.bool false))) s) :
    codeAny (model prog w) A (.call (.builtin "str.__ne__") ⟨[.str x t, .str x u], []⟩) R s := by
  refine code_meets F.slot_str_ne (typeIs_str s x t) F.entry_str_ne (F.args_str_ne_2 _ _) (gives_str_ne x x t u).meets ?_
  show R (.ok (.ret (.bool (x.cps.toList != x.cps.toList)))) s
  rw [bne_self_eq_false]
  exact h
/-- strs of a list -/
noncomputable def strL : List (List Nat × Tok) → List Value
  | [] => []
  | (p, t) :: l => .str ⟨⟨p⟩⟩ t :: strL l
theorem strValues_strL : ∀ (l : List (List Nat × Tok)), strValues (l.map fun p => ((⟨⟨p.1⟩⟩ : Str), p.2)) = strL l
  | [] => rfl
  | (p, t) :: l => by
    show _ :: _ = _ :: _
    rw [← strValues_strL l]
    rfl
theorem foldl_len (c : Nat) : ∀ (l : List Str) (n b : Nat), (∀ x ∈ l, x.length ≤ b) → l.foldl (fun (n : Nat) (x : Str) => n + x.length + c) n ≤ n + l.length * (b + c)
  | [], n, b, _ => by simp
  | x :: l, n, b, h => by
    rw [List.foldl_cons]
    have z := foldl_len c l (n + x.length + c) b fun y hy => h y (List.mem_cons_of_mem _ hy)
    have hx := h x (by simp)
    rw [List.length_cons, Nat.succ_mul]
    omega
theorem c_join {a : Addr} {t : Tok} {n : Nat} {l : List (List Nat × Tok)} (c : Nat) (ha : s.heap.get? a = some (lst (strL l) n)) (h2 : 2 ≤ l.length) (h3 : l.length ≤ 100) (hb : ∀ p ∈ l, p.1.length ≤ 1000)
    (h : R (.ok (.ret (.str ⟨⟨joinC c (l.map (·.1))⟩⟩ s.toks))) { s with toks := s.toks + 1 }) :
    codeAny (model prog w) A (.call (.builtin "str.join") ⟨[.str ⟨⟨[c]⟩⟩ t, .ref a], []⟩) R s := by
  have hl : tooLong (((l.map fun p => ((⟨⟨p.1⟩⟩ : Str), p.2)).map (·.1)).toArray.foldl (· + ·.length + (⟨⟨[c]⟩⟩ : Str).length) 0) = false := by
    have z := foldl_len 1 ((l.map fun p => ((⟨⟨p.1⟩⟩ : Str), p.2)).map (·.1)) 0 1000 (by
      intro x hx
      simp only [List.map_map, List.mem_map, Function.comp] at hx
      obtain ⟨p, hp, rfl⟩ := hx
      exact hb p hp)
    have hm : l.length * 1001 ≤ 100 * 1001 := Nat.mul_le_mul_right _ h3
    unfold tooLong
    rw [decide_eq_false_iff_not, List.foldl_toArray, Nat.not_lt, sizeLine_eq]
    simp only [List.length_map, Nat.zero_add] at z
    exact Nat.le_trans z (Nat.le_trans hm (by decide))
  refine code_meets F.slot_str_join (typeIs_str s _ t) F.entry_str_join (F.args_str_join_2 _ _) (meets_str_join_list ⟨⟨[c]⟩⟩ t a (l.map fun p => ((⟨⟨p.1⟩⟩ : Str), p.2)) hl) ⟨?_, ?_⟩
  · rw [strValues_strL]; exact lst_is ha
  · have hj : joinMade ⟨⟨[c]⟩⟩ (l.map fun p => ((⟨⟨p.1⟩⟩ : Str), p.2)) = .str ⟨⟨joinC c (l.map (·.1))⟩⟩ := by
      rcases l with _ | ⟨p, _ | ⟨q, l⟩⟩
      · simp at h2
      · simp at h2
      · show Made.str _ = _
        have e : ((p :: q :: l).map fun p => ((⟨⟨p.1⟩⟩ : Str), p.2)).map (·.1) = ((p :: q :: l).map (·.1)).map fun p => (⟨⟨p⟩⟩ : Str) := by rw [List.map_map, List.map_map]; rfl
        exact congrArg Made.str ((congrArg (glued _) e).trans (glued_join c _ (by simp)))
    rw [hj]
    refine ⟨?_, h⟩
    have hg : ∀ (ps : List (List Nat)), (∀ p ∈ ps, p.length ≤ 1000) → (joinC c ps).length ≤ ps.length * 1001 := by
      intro ps
      induction ps with
      | nil => intro _; simp [joinC]
      | cons p r ih =>
        intro hb
        have hp := hb p (by simp)
        cases r with
        | nil => simp [joinC]; omega
        | cons q r =>
          have := ih fun x hx => hb x (List.mem_cons_of_mem _ hx)
          simp only [joinC, List.length_append, List.length_cons] at this ⊢
          omega
    have z := hg (l.map (·.1)) (by intro x hx; obtain ⟨p, hp, rfl⟩ := List.mem_map.mp hx; exact hb p hp)
    rw [List.length_map] at z
    have hm : l.length * 1001 ≤ 100 * 1001 := Nat.mul_le_mul_right _ h3
    rw [sizeLine_eq]
    exact Nat.le_trans (show (joinC c (l.map (·.1))).length ≤ _ from z) (Nat.le_trans hm (by decide))
theorem strKind_pos (x : Str) : 1 ≤ Builtin.Str.strKind x := by
  unfold Builtin.Str.strKind
  repeat' split
  all_goals decide
theorem kind_one {c : Nat} (hc : c < 256) : Builtin.Str.strKind ⟨#[c]⟩ = 1 := by
  unfold Builtin.Str.strKind
  rw [if_pos (by simp [hc])]
/-- a text without the sign -/
theorem c_split1 {x : List Nat} {t u : Tok} {c : Nat} (h256 : c < 256) (hx : 1 ≤ x.length) (hc : c ∉ x) (h : R (.ok (.ret (.ref s.heap.objs.size))) { s with heap := s.heap.push (lst [.str ⟨⟨x⟩⟩ t] 0) }) :
    codeAny (model prog w) A (.call (.builtin "str.split") ⟨[.str ⟨⟨x⟩⟩ t, .str ⟨⟨[c]⟩⟩ u], []⟩) R s := by
  have h1 : (decide ((⟨⟨x⟩⟩ : Str).length < (⟨⟨[c]⟩⟩ : Str).length) || decide (Builtin.Str.strKind ⟨⟨x⟩⟩ < Builtin.Str.strKind ⟨⟨[c]⟩⟩)) = false := by
    have := strKind_pos ⟨⟨x⟩⟩
    have hk : Builtin.Str.strKind ⟨⟨[c]⟩⟩ = 1 := kind_one h256
    rw [Bool.or_eq_false_iff, decide_eq_false_iff_not, decide_eq_false_iff_not, hk]
    exact ⟨Nat.not_lt.mpr hx, Nat.not_lt.mpr this⟩
  refine code_meets F.slot_str_split (typeIs_str s _ t) F.entry_str_split (F.args_str_split_2 _ _) (meets_str_split_not_found ⟨⟨x⟩⟩ ⟨⟨[c]⟩⟩ t u h1 rfl ?_) h
  have := occ_pos c x
  rw [this, posC_free x 0 hc]
  rfl
noncomputable def strF : Nat → List (List Nat) → List (List Nat × Tok)
  | _, [] => []
  | k, p :: l => (p, k) :: strF (k + 1) l
theorem strsFrom_strF : ∀ (ps : List (List Nat)) (k : Nat), strsFrom k (ps.map fun p => (⟨⟨p⟩⟩ : Str)) = strL (strF k ps)
  | [], _ => rfl
  | p :: ps, k => by
    show _ :: _ = _ :: _
    rw [← strsFrom_strF ps (k + 1)]
theorem c_split {ps : List (List Nat)} {t u : Tok} {c : Nat} (h256 : c < 256) (h2 : 2 ≤ ps.length) (h3 : ps.length ≤ 100) (hl : (joinC c ps).length ≤ 1000) (hc : ∀ p ∈ ps, c ∉ p)
    (h : R (.ok (.ret (.ref s.heap.objs.size))) { s with toks := s.toks + ps.length, heap := s.heap.push (lst (strL (strF s.toks ps)) 0) }) :
    codeAny (model prog w) A (.call (.builtin "str.split") ⟨[.str ⟨⟨joinC c ps⟩⟩ t, .str ⟨⟨[c]⟩⟩ u], []⟩) R s := by
  have hne : ps ≠ [] := by rintro rfl; simp at h2
  have hx : 1 ≤ (joinC c ps).length := by
    rcases ps with _ | ⟨p, _ | ⟨q, r⟩⟩
    · simp at h2
    · simp at h2
    · simp [joinC]; omega
  have h1 : (decide ((⟨⟨joinC c ps⟩⟩ : Str).length < (⟨⟨[c]⟩⟩ : Str).length) || decide (Builtin.Str.strKind ⟨⟨joinC c ps⟩⟩ < Builtin.Str.strKind ⟨⟨[c]⟩⟩)) = false := by
    have := strKind_pos ⟨⟨joinC c ps⟩⟩
    have hk : Builtin.Str.strKind ⟨⟨[c]⟩⟩ = 1 := kind_one h256
    rw [Bool.or_eq_false_iff, decide_eq_false_iff_not, decide_eq_false_iff_not, hk]
    exact ⟨Nat.not_lt.mpr hx, Nat.not_lt.mpr this⟩
  have hsp := split_join ps hne hc
  have hf : (occurrences ⟨⟨joinC c ps⟩⟩ ⟨⟨[c]⟩⟩ 0 (⟨⟨joinC c ps⟩⟩ : Str).length ((⟨⟨joinC c ps⟩⟩ : Str).length + 1)).isEmpty = false := by
    cases q : (occurrences ⟨⟨joinC c ps⟩⟩ ⟨⟨[c]⟩⟩ 0 (⟨⟨joinC c ps⟩⟩ : Str).length ((⟨⟨joinC c ps⟩⟩ : Str).length + 1)) with
    | nil =>
      rw [show (⟨⟨[c]⟩⟩ : Str) = ⟨#[c]⟩ from rfl] at q
      rw [q] at hsp
      have := congrArg List.length hsp
      simp [partsBetween] at this
      omega
    | cons => rfl
  refine code_meets F.slot_str_split (typeIs_str s _ t) F.entry_str_split (F.args_str_split_2 _ _) (meets_str_split_sep ⟨⟨joinC c ps⟩⟩ ⟨⟨[c]⟩⟩ t u h1 rfl hf (by rw [sizeLine_eq]; exact Nat.le_trans hl (by decide)) ?_) ?_
  · rw [show (⟨⟨[c]⟩⟩ : Str).length = 1 from rfl, show (⟨⟨[c]⟩⟩ : Str) = ⟨#[c]⟩ from rfl, hsp, List.length_map, sizeLine_eq]
    exact Nat.le_trans h3 (by decide)
  · show R _ _
    rw [show (⟨⟨[c]⟩⟩ : Str).length = 1 from rfl, show (⟨⟨[c]⟩⟩ : Str) = ⟨#[c]⟩ from rfl, hsp, List.length_map, strsFrom_strF]
    exact h
theorem foldl_rep (v : Value) : ∀ (k : Nat) (acc : Array Value), List.foldl (fun x1 x2 => x1 ++ x2) acc (List.replicate k #[v]) = acc ++ (⟨List.replicate k v⟩ : Array Value)
  | 0, acc => by simp
  | k + 1, acc => by
    rw [List.replicate_succ, List.foldl_cons, foldl_rep v k]
    apply Array.toList_inj.mp
    simp [List.replicate_succ]
theorem meets_mul (l : Addr) (items : Array Value) (n : Nat) (x : Int) (u : Tok) (h0 : Builtin.List.listFitsIndex x = true) (h1 : items.size * x.toNat ≤ 10000) :
    Meets (Builtin.«list.__mul__» ⟨[.ref l, .int x u], []⟩) (fun _ R s => s.heap.get? l = some { cls := .type "list", dict := none, data := .seq items n, slots := #[] } ∧ R (.ok (.ret (Value.ref s.heap.objs.size))) { s with heap := s.heap.push { cls := Value.type "list", data := Data.seq (List.foldl (fun x1 x2 => x1 ++ x2) #[] (List.replicate (if items.isEmpty = true then 0 else x.toNat) items)) }, toks := s.toks }) :=
  AutoListH.list___mul___list_int_3 l items n x u (by rw [h0]; decide) (by rw [Nat.not_lt]; exact Nat.le_trans h1 (by decide)) (by
    unfold Builtin.List.listTooLong
    rw [decide_eq_true_eq, sizeLine_eq, Nat.not_lt]
    exact Nat.le_trans h1 (by decide))
theorem c_mulG {l : Addr} {vs res : List Value} {n : Nat} {x : Int} {u : Tok} (hl : s.heap.get? l = some (lst vs n)) (h0 : Builtin.List.listFitsIndex x = true) (h1 : vs.length * x.toNat ≤ 10000)
    (e : (List.foldl (fun x1 x2 => x1 ++ x2) #[] (List.replicate (if (⟨vs⟩ : Array Value).isEmpty = true then 0 else x.toNat) (⟨vs⟩ : Array Value))) = (⟨res⟩ : Array Value))
    (h : R (.ok (.ret (.ref s.heap.objs.size))) { s with heap := s.heap.push (lst res 0) }) :
    codeAny (model prog w) A (.call (.builtin "list.__mul__") ⟨[.ref l, .int x u], []⟩) R s := by
  have hT : s.TypeIs (.ref l) "list" := ⟨_, hl, rfl⟩
  refine code_meets F.slot_list_mul hT F.entry_list_mul (F.args_list_mul_2 _ _) (meets_mul l ⟨vs⟩ n x u h0 h1) ⟨hl, ?_⟩
  rw [e]
  exact h
/-- [v] * k -/
theorem c_lmul {l : Addr} {v : Value} {n k : Nat} {u : Tok} (hl : s.heap.get? l = some (lst [v] n)) (hk : k ≤ 10000) (h : R (.ok (.ret (.ref s.heap.objs.size))) { s with heap := s.heap.push (lst (List.replicate k v) 0) }) :
    codeAny (model prog w) A (.call (.builtin "list.__mul__") ⟨[.ref l, .int (.ofNat k) u], []⟩) R s := by
  have h0 : Builtin.List.listFitsIndex (Int.ofNat k) = true := by
    unfold Builtin.List.listFitsIndex
    have : (Int.ofNat k) = (k : Int) := rfl
    simp
    omega
  refine c_mulG hl h0 ?_ ?_ h
  · rw [show [v].length * (Int.ofNat k).toNat = 1 * k from rfl, Nat.one_mul]; exact hk
  · rw [if_neg (by simp), show (Int.ofNat k).toNat = k from rfl]
    have := foldl_rep v k #[]
    simpa using this
end
end Mine
end
section
namespace Mine
/-- looking into a call -/
noncomputable def argOf (t : Sem PySem.Fin) (i : Nat) : Value := match callIs t with
  | some (.call _ a, _) => (a.pos[i]?).getD .none
  | _ => .none
noncomputable def tokOf : Value → Nat
  | .int _ t => t
  | .str _ t => t
  | _ => 0
noncomputable def callI2 (id : String) (a b : Int) (t : Sem PySem.Fin) : Code × Option Value := (.call (.builtin id) ⟨[.int a (tokOf (argOf t 0)), .int b (tokOf (argOf t 1))], []⟩, none)
section
variable {prog : Program} {w : World} {A : Around} {s : Shared} {R : Result → Shared → Prop}
theorem c_imul {a b : Int} {t u : Tok} (hb : Builtin.Int.intBits b ≤ 64) (h : R (.ok (.ret (.int (a * b) s.toks))) { s with toks := s.toks + 1 }) :
    codeAny (model prog w) A (.call (.builtin "int.__mul__") ⟨[.int a t, .int b u], []⟩) R s :=
  code_meets F.slot_int_mul (typeIs_int s a t) F.entry_int_mul (F.args_int_mul_2 _ _) (AutoIntG1.int___mul___int_int_0 a t b u (IntMulOk.of_right hb)).meets h
end
theorem bits_le {k : Int} (h0 : 0 ≤ k) (h1 : k < 2 ^ 40) : Builtin.Int.intBits k ≤ 64 := by
  unfold Builtin.Int.intBits
  split
  · decide
  · rename_i h
    have hne : k.natAbs ≠ 0 := fun e => h (by simp [Int.natAbs_eq_zero.mp e])
    have := (Nat.log2_lt (k := 40) hne).mpr (by omega)
    omega
theorem Go.mul {V : Wb} {S : St} (a b : Int) (e : callIs S.t = some (callI2 "int.__mul__" a b S.t)) (hb : Builtin.Int.intBits b ≤ 64) (next : Go V (S.ret (.ok (.ret (.int (a * b) S.tk))) 1)) : Go V S :=
  Go.callP _ none e rfl (fun tk => .ok (.ret (.int (a * b) tk))) 1 (fun _ _ _ post => c_imul hb post) next
theorem rows_all : ∀ (T : LT) (n i : Nat) (l : List (Nat × Obj)), T.rows n i = l.map some → n = l.length → ∀ k, k < n → T.get (i + k) = l[k]? := fun T n i l e hn k hk => by
  have z := LT.rows_get T n i k hk
  rw [e, List.getElem?_map] at z
  have h : k < l.length := hn ▸ hk
  rw [List.getElem?_eq_getElem h] at z ⊢
  simpa using z.symm
/-- a start from a list of known objects -/
theorem startN {V : Ws} {h : Heap} {T : LT} {l : List (Nat × Obj)} (K : ∀ c y, V.kt.get c = some y → h.get? c = some y) (h1 : V.g1 = 0) (h2 : V.g2 = l.length) (hl : T.lt l.length = true) (hr : T.rows l.length 0 = l.map some)
    (hh : ∀ p ∈ l, h.get? p.1 = some p.2 ∧ V.kt.get p.1 = none) (hn : (l.map (·.1)).Nodup) (hx : V.ex = [] := by rfl) : Rep V h [] T h.objs.size h := by
  have key : ∀ i a o, T.get i = some (a, o) → l[i]? = some (a, o) := fun i a o e => by
    have hi := LT.lt_of _ _ hl _ _ _ e
    have z := rows_all T l.length 0 l hr rfl i hi
    rw [Nat.zero_add, e] at z
    exact z.symm
  have key2 : ∀ i a o, T.get i = some (a, o) → (l.map (·.1))[i]? = some a := fun i a o e => by rw [List.getElem?_map, key i a o e]; rfl
  refine Rep.start K (fun i a o e => ?_) (fun i j a o o' e e' => ?_) (fun i a o e => ?_) (fun i a o e hi => ?_) (fun i a o e => ?_) hx
  · exact (hh _ (List.mem_of_getElem? (key _ _ _ e))).1
  · obtain ⟨h3, h4⟩ := List.getElem?_eq_some_iff.mp (key2 _ _ _ e)
    obtain ⟨h5, h6⟩ := List.getElem?_eq_some_iff.mp (key2 _ _ _ e')
    have q := List.pairwise_iff_getElem.mp hn
    rcases Nat.lt_trichotomy i j with x | x | x
    · exact absurd (h4.trans h6.symm) (q i j h3 h5 x)
    · exact x
    · exact absurd (h6.trans h4.symm) (q j i h5 h3 x)
  · exact (hh _ (List.mem_of_getElem? (key _ _ _ e))).2
  · rw [h1] at hi; exact absurd hi (Nat.not_lt_zero _)
  · rw [h2]; exact LT.lt_of _ _ hl _ _ _ e
structure Bd where
  a : Nat
  lo : Int
  t : Nat
  hi : Int
  u : Nat
noncomputable def Bd.obj (b : Bd) : Obj := tup [.int b.lo b.t, .int b.hi b.u]
noncomputable def bdRefs : List Bd → List Value
  | [] => []
  | b :: l => .ref b.a :: bdRefs l
noncomputable def bdSize : Int → List Bd → Int
  | x, [] => x
  | x, b :: l => bdSize (x * (b.hi - b.lo + 1)) l
noncomputable def bdObjs : List Bd → List (Nat × Obj)
  | [] => []
  | b :: l => (b.a, b.obj) :: bdObjs l
/-- size_of_bounds(bounds), one to three bounds -/
noncomputable def SizeSpec (w : World) : Prop := ∀ (A : Around) (h : Heap) (ba n t0 : Nat) (ts : List Bd) (d : Drawn) (os : OsState) (R : Result → Shared → Prop),
  A.handled = none → A.depth ≤ 590 → Known w.params h → 1 ≤ ts.length → ts.length ≤ 3 → (∀ b ∈ ts, Builtin.Int.intBits (b.hi - b.lo + 1) ≤ 64) → (∀ p ∈ (ba, lst (bdRefs ts) n) :: bdObjs ts, h.get? p.1 = some p.2 ∧ (kq w.params).get p.1 = none) → (((ba, lst (bdRefs ts) n) :: bdObjs ts).map (·.1)).Nodup →
  (∀ (u : Nat) (h' : Heap) (t' : Nat), Aft h h' [] → R (.ok (.ret (.int (bdSize 1 ts) u))) ⟨h', #[], d, t', os⟩) →
  codeAny (model PySem.Challenge.pw_pf0369_01 w) A (.call (.ref 238) ⟨[.ref ba], []⟩) R ⟨h, #[], d, t0, os⟩
set_option maxHeartbeats 0 in
theorem size_spec : ∀ w, SizeSpec w := by
  refine worldsB fun w b1 => ?_
  intro A h ba n t0 ts d os R hA hd K hl1 hl3 hb hh hn post
  obtain ⟨ha, dp, fr, gu, un⟩ := A
  cases hA
  have hA' : dp ≤ 600 := Nat.le_trans hd (by decide)
  rcases ts with _ | ⟨⟨a1, lo1, t1, hi1, u1⟩, _ | ⟨⟨a2, lo2, t2, hi2, u2⟩, _ | ⟨⟨a3, lo3, t3, hi3, u3⟩, _ | ⟨x, r⟩⟩⟩⟩
  · exact absurd hl1 (by decide)
  · refine enter (V := wholeV _ dp un fr gu 2 h R d os) (T := LT.of 0 ((ba, lst (bdRefs [⟨a1, lo1, t1, hi1, u1⟩]) n) :: bdObjs [⟨a1, lo1, t1, hi1, u1⟩]) .nil) (m := 2) hA' (by show 600 < 1000; decide) (startN K rfl rfl (by kernel_rfl) (by kernel_rfl) hh hn) ?_
    refine seg hA' (by show 0 ≤ 2; decide) 124 1172946617731253441314731859910630213800995202299287659880664181686854994676836115675502903402371305928880937692133991158118184115321110801416192 (by refine bk b1 ?_ ?_ <;> kernel_rfl) (by refine bk b1 ?_ ?_ <;> kernel_rfl) ?_
    refine Go.mul (1) (hi1 - lo1 + 1) (by refine bk b1 ?_ ?_ <;> kernel_rfl) (hb ⟨a1, lo1, t1, hi1, u1⟩ (by simp)) ?_
    refine seg hA' (by show 0 ≤ 2; decide) 29 3735599708986779187255707139 (by refine bk b1 ?_ ?_ <;> kernel_rfl) (by refine bk b1 ?_ ?_ <;> kernel_rfl) ?_
    exact Go.doneI (bdSize 1 [⟨a1, lo1, t1, hi1, u1⟩]) (by refine bk b1 ?_ ?_ <;> kernel_rfl) (by refine bk b1 ?_ ?_ <;> kernel_rfl) fun h' u D => post u h' _ D.aft
  · refine enter (V := wholeV _ dp un fr gu 3 h R d os) (T := LT.of 0 ((ba, lst (bdRefs [⟨a1, lo1, t1, hi1, u1⟩, ⟨a2, lo2, t2, hi2, u2⟩]) n) :: bdObjs [⟨a1, lo1, t1, hi1, u1⟩, ⟨a2, lo2, t2, hi2, u2⟩]) .nil) (m := 3) hA' (by show 600 < 1000; decide) (startN K rfl rfl (by kernel_rfl) (by kernel_rfl) hh hn) ?_
    refine seg hA' (by show 0 ≤ 3; decide) 124 1563928823641671255029843841409039689803049312070907244459743616804864167737406372206337992582082121325352217566381048072577233248725971193823232 (by refine bk b1 ?_ ?_ <;> kernel_rfl) (by refine bk b1 ?_ ?_ <;> kernel_rfl) ?_
    refine Go.mul (1) (hi1 - lo1 + 1) (by refine bk b1 ?_ ?_ <;> kernel_rfl) (hb ⟨a1, lo1, t1, hi1, u1⟩ (by simp)) ?_
    refine seg hA' (by show 0 ≤ 3; decide) 99 1263331642899661736861834601218704754000896554959433310606343221524881148678872460967206305149904153905675778099775492 (by refine bk b1 ?_ ?_ <;> kernel_rfl) (by refine bk b1 ?_ ?_ <;> kernel_rfl) ?_
    refine Go.mul (1 * (hi1 - lo1 + 1)) (hi2 - lo2 + 1) (by refine bk b1 ?_ ?_ <;> kernel_rfl) (hb ⟨a2, lo2, t2, hi2, u2⟩ (by simp)) ?_
    refine seg hA' (by show 0 ≤ 3; decide) 29 4983215886418966655278516228 (by refine bk b1 ?_ ?_ <;> kernel_rfl) (by refine bk b1 ?_ ?_ <;> kernel_rfl) ?_
    exact Go.doneI (bdSize 1 [⟨a1, lo1, t1, hi1, u1⟩, ⟨a2, lo2, t2, hi2, u2⟩]) (by refine bk b1 ?_ ?_ <;> kernel_rfl) (by refine bk b1 ?_ ?_ <;> kernel_rfl) fun h' u D => post u h' _ D.aft
  · refine enter (V := wholeV _ dp un fr gu 4 h R d os) (T := LT.of 0 ((ba, lst (bdRefs [⟨a1, lo1, t1, hi1, u1⟩, ⟨a2, lo2, t2, hi2, u2⟩, ⟨a3, lo3, t3, hi3, u3⟩]) n) :: bdObjs [⟨a1, lo1, t1, hi1, u1⟩, ⟨a2, lo2, t2, hi2, u2⟩, ⟨a3, lo3, t3, hi3, u3⟩]) .nil) (m := 4) hA' (by show 600 < 1000; decide) (startN K rfl rfl (by kernel_rfl) (by kernel_rfl) hh hn) ?_
    refine seg hA' (by show 0 ≤ 4; decide) 124 1954911029552089068744955822907449165805103421842526829038823051922873340797976628737173081761792936721823497440628104987036282382130831586230272 (by refine bk b1 ?_ ?_ <;> kernel_rfl) (by refine bk b1 ?_ ?_ <;> kernel_rfl) ?_
    refine Go.mul (1) (hi1 - lo1 + 1) (by refine bk b1 ?_ ?_ <;> kernel_rfl) (hb ⟨a1, lo1, t1, hi1, u1⟩ (by simp)) ?_
    refine seg hA' (by show 0 ≤ 4; decide) 99 1579164553624577171017402014369531699514088948848518108398764488381205589701639626086397770959633423478768740200876549 (by refine bk b1 ?_ ?_ <;> kernel_rfl) (by refine bk b1 ?_ ?_ <;> kernel_rfl) ?_
    refine Go.mul (1 * (hi1 - lo1 + 1)) (hi2 - lo2 + 1) (by refine bk b1 ?_ ?_ <;> kernel_rfl) (hb ⟨a2, lo2, t2, hi2, u2⟩ (by simp)) ?_
    refine seg hA' (by show 0 ≤ 4; decide) 99 1579164553624577171120130032245384811467532111082989022309719833784375304862855649524649984021467643893899858539973125 (by refine bk b1 ?_ ?_ <;> kernel_rfl) (by refine bk b1 ?_ ?_ <;> kernel_rfl) ?_
    refine Go.mul (1 * (hi1 - lo1 + 1) * (hi2 - lo2 + 1)) (hi3 - lo3 + 1) (by refine bk b1 ?_ ?_ <;> kernel_rfl) (hb ⟨a3, lo3, t3, hi3, u3⟩ (by simp)) ?_
    refine seg hA' (by show 0 ≤ 4; decide) 29 6230832063851154123301325317 (by refine bk b1 ?_ ?_ <;> kernel_rfl) (by refine bk b1 ?_ ?_ <;> kernel_rfl) ?_
    exact Go.doneI (bdSize 1 [⟨a1, lo1, t1, hi1, u1⟩, ⟨a2, lo2, t2, hi2, u2⟩, ⟨a3, lo3, t3, hi3, u3⟩]) (by refine bk b1 ?_ ?_ <;> kernel_rfl) (by refine bk b1 ?_ ?_ <;> kernel_rfl) fun h' u D => post u h' _ D.aft
  · exact absurd hl3 (by simp)
end Mine
end
section
namespace Mine
theorem Rep.at {V : Ws} {h₀ h : Heap} {M : List Nat} {T : LT} {nx nx' : Nat} (D : Rep V h₀ M T nx h) (e : nx = nx') : Rep V h₀ M T nx' h := e ▸ D
noncomputable def kh (P : Params) (x : Str) : Int := PySem.PyData.keyHash P x
noncomputable def excO (dd : Option Addr) (dt : Data) (sl : Array (Option Value)) : Obj := ⟨.type "StopIteration", dd, dt, sl⟩
noncomputable def sTurn : Str := ⟨⟨[116, 117, 114, 110]⟩⟩
noncomputable def rngI (j m : Nat) : Obj := ⟨.type "range_iterator", none, .fields ⟨[.int (.ofNat j) 0, .int (.ofNat m) 0, .int 1 0]⟩, ⟨[]⟩⟩
/-- looking into a ledger -/
noncomputable def objAt (T : LT) (i : Nat) : Obj := ((T.get i).map (·.2)).getD ⟨.none, none, .plain, ⟨[]⟩⟩
noncomputable def addrAt (T : LT) (i : Nat) : Nat := ((T.get i).map (·.1)).getD 0
noncomputable def tokS : Value → Nat
  | .str _ t => t
  | _ => 0
noncomputable def entAt (o : Obj) (i : Nat) : Option DictEntry := match o.data with
  | .dict ⟨es⟩ _ => es[i]?
  | _ => none
noncomputable def kTok (o : Obj) (i : Nat) : Nat := match entAt o i with
  | some e => tokS e.key
  | none => 0
noncomputable def vAt (o : Obj) (i : Nat) : Value := match entAt o i with
  | some e => e.val
  | none => .none
noncomputable def seqAt (o : Obj) : List Value := match o.data with
  | .seq ⟨vs⟩ _ => vs
  | .fields ⟨vs⟩ => vs
  | _ => []
noncomputable def epAt (o : Obj) : Nat := match o.data with
  | .seq _ n => n
  | _ => 0
noncomputable def cellAt (o : Obj) : Value := match o.data with
  | .cell (some v) => v
  | _ => .none
end Mine
end
section
namespace Mine
section
variable {prog : Program} {w : World} {A : Around} {s : Shared} {R : Result → Shared → Prop}
theorem c_append {l : Addr} {vs : List Value} {n : Nat} {x : Value} (hl : s.heap.get? l = some (lst vs n)) (hsz : vs.length ≤ sizeLine)
    (hQ : ∀ h', h'.get? l = some (lst (vs ++ [x]) (n + 1)) → h'.objs.size = s.heap.objs.size → Aft s.heap h' [l] → R (.ok (.ret .none)) { s with heap := h' }) :
    codeAny (model prog w) A (.call (.builtin "list.append") ⟨[.ref l, x], []⟩) R s := by
  have hT : s.TypeIs (.ref l) "list" := ⟨_, hl, rfl⟩
  refine code_slot slot_list_append hT entry_list_append (args_list_append _ _) ?_
  show wpAny _ _ (updateSeq l (·.push x) >>= fun _ => ret .none) _ _ s
  refine wpAny_bind ?_
  refine wpAny_updateSeq hl rfl (wpAny_pure ⟨.none, rfl, hQ _ ?_ ?_ Aft.update⟩)
  · have e : Obj.mapSeq (·.push x) (lst vs n) = lst (vs ++ [x]) (n + 1) := by simp [Obj.mapSeq, lst]
    rw [Heap.get?_update_self _ hl (by rw [e]; rfl), e]
  · have hs : Heap.SameBut l s.heap (s.heap.update l (Obj.mapSeq (·.push x))) := Heap.SameBut.update ..
    exact hs.1
end
noncomputable def cOf (t : Sem PySem.Fin) : Code := match callIs t with
  | some (c, _) => c
  | none => .builtin "" {}
noncomputable def flowOf (t : Sem PySem.Fin) : Flow := match t with
  | .pure (.done f) => f
  | _ => .next
noncomputable def doneIs (t : Sem PySem.Fin) : Bool := match t with
  | .pure (.done _) => true
  | _ => false
theorem doneIs_eq {t : Sem PySem.Fin} (e : doneIs t = true) : t = .pure (.done (flowOf t)) := by
  unfold doneIs at e
  split at e
  · rfl
  · cases e
noncomputable def callN (t : Sem PySem.Fin) : Bool := match callIs t with
  | some (_, none) => true
  | _ => false
theorem callN_eq {t : Sem PySem.Fin} (e : callN t = true) : callIs t = some (cOf t, none) := by
  unfold callN at e
  unfold cOf
  split at e
  · rename_i c h; rw [h]
  · cases e
/-- a state's successors -/
noncomputable def SX.run (S : SX) (V : VX) (n cs : Nat) : SX := (rX V n cs [] S).st
noncomputable def SX.ret (S : SX) (r : Result) : SX := { S with t := callK S.t r }
noncomputable def SX.in (S : SX) : SX := ⟨cOf S.t, [], dX (cOf S.t), S.p, S.T, S.m, S.nx, S.tk⟩
theorem GoX.in {V : VB} {S : SX} (e : callN S.t = true) (h : GoX (V.push S (cOf S.t) none) S.in) : GoX V S := GoX.callX _ _ (callN_eq e) h
theorem GoX.out {V : VB} {S : SX} (hκ : S.κ = []) (e : doneIs S.t = true) (h : ∀ h', Rep V.toWs V.h₀ V.M S.T S.nx h' → V.R₀ (.ok (flowOf S.t)) ⟨h', #[], V.d, S.tk, V.os⟩) : GoX V S := GoX.done _ hκ (doneIs_eq e) h
end Mine
end
section
namespace Mine
section
variable {prog : Program} {w : World} {A : Around} {s : Shared} {R : Result → Shared → Prop}
theorem c_range {it : Addr} {j m : Nat} (h : s.heap.get? it = some (rngI j (m + 1)))
    (hQ : ∀ h', h'.get? it = some (rngI (j + 1) m) → h'.objs.size = s.heap.objs.size → Aft s.heap h' [it] → R (.ok (.ret (.int (.ofNat j) s.toks))) { s with heap := h', toks := s.toks + 1 }) :
    codeAny (model prog w) A (.call (.builtin "range_iterator.__next__") ⟨[.ref it], []⟩) R s := by
  have hT : s.TypeIs (.ref it) "range_iterator" := ⟨_, h, rfl⟩
  refine code_meets F.slot_range_iterator_next hT F.entry_range_iterator_next (F.args_range_iterator_next_1 _) (AutoRange.range_iterator___next___range_iterator_1 it (.ofNat j) (.ofNat (m + 1)) 1 (by show ¬ ((m + 1 : Nat) : Int) ≤ 0; omega)) ⟨h, ?_⟩
  have g1 : (s.heap.update it (Obj.mapFields fun x => x.setIfInBounds 0 (rawInt (.ofNat j + 1)))).get? it = some ⟨.type "range_iterator", none, .fields ⟨[.int (.ofNat j + 1) 0, .int (.ofNat (m + 1)) 0, .int 1 0]⟩, ⟨[]⟩⟩ := Heap.get?_update_self _ h rfl
  have g2 := Heap.get?_update_self (Obj.mapFields fun x => x.setIfInBounds 1 (rawInt (.ofNat (m + 1) - 1))) g1 rfl
  have e1 : (Int.ofNat (m + 1) - 1) = Int.ofNat m := by show ((m + 1 : Nat) : Int) - 1 = ((m : Nat) : Int); omega
  refine hQ _ ?_ ?_ ?_
  · rw [g2]
    show some (⟨.type "range_iterator", none, .fields ⟨[.int (.ofNat j + 1) 0, .int (Int.ofNat (m + 1) - 1) 0, .int 1 0]⟩, ⟨[]⟩⟩ : Obj) = _
    rw [e1]
    rfl
  · exact (Heap.SameBut.update ..).1.trans (Heap.SameBut.update ..).1
  · exact Aft.trans Aft.update Aft.update
end
end Mine
end
section
namespace Mine
theorem Go.again {V : Wb} {S : St} (c' : Code) (hκ : S.κ = []) (e : S.t = .pure (.again c')) (hq : c'.quiet = true) (h : ∀ h', Rep V.toWs V.h₀ V.M S.T S.nx h' → codeAny (model V.prog V.w) V.A₀ c' V.R₀ ⟨h', #[], V.d, S.tk, V.os⟩) : Go V S := by
  obtain ⟨c, κ, t, T, m, nx, tk⟩ := S
  cases hκ
  cases e
  intro h' D Γ p hc hΓ
  exact y_again (prog := V.prog) (w := V.w) V.A₀ V.R₀ _ c' hq (h h' D)
/-- a call that makes one object -/
theorem Go.callAlloc {V : Wb} {S : St} (c' : Code) (o : Nat → Obj) (dt : Nat) (e : callIs S.t = some (c', none)) (hf : (o S.tk).isFreed = false) (hg : V.g1 ≤ V.g2)
    (hp : (Nat.ble V.g2 S.m, (S.T.put S.m S.nx (o S.tk)).get S.m, S.T.get S.m) = (true, some (S.nx, o S.tk), none))
    (h : ∀ h' R, Rep V.toWs V.h₀ V.M S.T S.nx h' → R (.ok (.ret (.ref h'.objs.size))) ⟨h'.push (o S.tk), #[], V.d, S.tk + dt, V.os⟩ → codeAny (model V.prog V.w) (((arOf V.A₀ S.κ).under S.c).mark none) c' R ⟨h', #[], V.d, S.tk, V.os⟩)
    (next : Go V (S.retA (o S.tk) dt)) : Go V S := by
  refine Go.call c' none e rfl fun h' D => h h' _ D ?_
  have h1 : (S.T.put S.m S.nx (o S.tk)).get S.m = some (S.nx, o S.tk) := congrArg (·.2.1) hp
  have h2 : S.T.get S.m = none := congrArg (·.2.2) hp
  have h3 : V.g2 ≤ S.m := Nat.le_of_ble_eq_true (congrArg (·.1) hp)
  have z := next (h'.push (o S.tk)) (D.alloc hf h3 (Nat.not_lt.mpr (Nat.le_trans hg h3)) (by rw [h1]; rfl) h2)
  show Means V S.c S.κ (callK S.t (.ok (.ret (.ref h'.objs.size)))) _
  rw [D.size]
  exact z
theorem Go.cutF {V : Wb} {S : St} (js : List Nat) (T' : LT) (m' : Nat) (hl : T'.lt js.length = true) (hm : T'.rows js.length 0 = js.map S.T.get) (hn : js.Nodup) (hs : sameSide V.toWs js 0 = true) (h : Go V ⟨S.c, S.κ, S.t, T', m', S.nx, S.tk⟩) : Go V S :=
  fun h' D => h h' (D.cut js T' hl hm hn hs)
section
variable {prog : Program} {w : World} {A : Around} {s : Shared} {R : Result → Shared → Prop}
theorem c_ilt {a b : Int} {t u : Tok} {v : Bool} (hv : decide (a < b) = v) (h : R (.ok (.ret (.bool v))) s) :
    codeAny (model prog w) A (.call (.builtin "int.__lt__") ⟨[.int a t, .int b u], []⟩) R s := by
  subst hv
  exact code_meets F.slot_int_lt (typeIs_int s a t) F.entry_int_lt (F.args_int_lt_2 _ _) (gives_int_lt a b t u).meets h
theorem c_igt {a b : Int} {t u : Tok} {v : Bool} (hv : decide (b < a) = v) (h : R (.ok (.ret (.bool v))) s) :
    codeAny (model prog w) A (.call (.builtin "int.__gt__") ⟨[.int a t, .int b u], []⟩) R s := by
  subst hv
  exact code_meets F.slot_int_gt (typeIs_int s a t) F.entry_int_gt (F.args_int_gt_2 _ _) (gives_int_gt a b t u).meets h
theorem c_ieq {a b : Int} {t u : Tok} {v : Bool} (hv : (a == b) = v) (h : R (.ok (.ret (.bool v))) s) :
    codeAny (model prog w) A (.call (.builtin "int.__eq__") ⟨[.int a t, .int b u], []⟩) R s := by
  subst hv
  exact code_meets F.slot_int_eq (typeIs_int s a t) F.entry_int_eq (F.args_int_eq_2 _ _) (gives_int_eq a b t u).meets h
end
theorem Go.ilt {V : Wb} {S : St} (a b : Int) (v : Bool) (e : callIs S.t = some (callI2 "int.__lt__" a b S.t)) (hv : decide (a < b) = v) (next : Go V (S.ret (.ok (.ret (.bool v))) 0)) : Go V S :=
  Go.callP _ none e rfl (fun _ => .ok (.ret (.bool v))) 0 (fun _ _ _ post => c_ilt hv post) next
theorem Go.ieq {V : Wb} {S : St} (a b : Int) (v : Bool) (e : callIs S.t = some (callI2 "int.__eq__" a b S.t)) (hv : (a == b) = v) (next : Go V (S.ret (.ok (.ret (.bool v))) 0)) : Go V S :=
  Go.callP _ none e rfl (fun _ => .ok (.ret (.bool v))) 0 (fun _ _ _ post => c_ieq hv post) next
theorem Go.in224 {V : Wb} {S : St} (i b : Nat) (hprog : V.prog = PySem.Challenge.pw_pf0369_01) (hkt : V.kt = kq V.w.params) (e : callIs S.t = some (.call (.ref 224) ⟨[.str ⟨⟨numT i⟩⟩ (tokOf (argOf S.t 0)), .int 32 (tokOf (argOf S.t 1))], []⟩, none)) (hi : i < 11)
    (hA : ((((arOf V.A₀ S.κ).under S.c).mark none).handled, (((arOf V.A₀ S.κ).under S.c).mark none).depth) = (none, b)) (hb : b ≤ 590)
    (next : ∀ u nx' t', Go V (S.retN (.ok (.ret (.int (numV i) u))) nx' t')) : Go V S := by
  refine Go.call _ none e rfl fun h' D => ?_
  have K : Known V.w.params h' := fun a o z => D.known a o (hkt ▸ z)
  have H := in_spec V.w _ h' i (tokOf (argOf S.t 0)) (tokOf (argOf S.t 1)) S.tk V.d V.os (fun r s' => Means V S.c S.κ (callK S.t r) s') (congrArg (·.1) hA) (by rw [show Around.depth _ = b from congrArg (·.2) hA]; exact hb) K hi
    (fun u h2 t2 F => Go.from S.m (next u _ t2) (D.step F rfl))
  rw [← hprog] at H
  exact H
theorem Go.append {V : Wb} {S : St} (i l : Nat) (vs : List Value) (n : Nat) (x : Value) (e : callIs S.t = some (.call (.builtin "list.append") ⟨[.ref l, x], []⟩, none)) (hi : S.T.get i = some (l, lst vs n)) (hsz : vs.length ≤ 1000) (hw : i < V.g1 ∨ V.g2 ≤ i)
    (next : Go V (S.retP (.ok (.ret .none)) i l (lst (vs ++ [x]) (n + 1)) 0)) : Go V S := by
  refine Go.call _ none e rfl fun h1 D => ?_
  refine c_append (D.own i l _ hi) (by rw [sizeLine_eq]; exact Nat.le_trans hsz (by decide)) fun h2 h3 h4 F => ?_
  exact Go.from S.m next ((D.step1 hi F h3 hw).at (h4.trans D.size))
theorem Go.item {V : Wb} {S : St} (i j it pa k : Nat) (vs : List Value) (n : Nat) (x : Value) (e : callIs S.t = some (.call (.builtin "list_iterator.__next__") ⟨[.ref it], []⟩, none)) (hi : S.T.get i = some (it, litr pa k none ⟨[]⟩)) (hj : S.T.get j = some (pa, lst vs n))
    (hx : vs[k]? = some x) (hw : i < V.g1 ∨ V.g2 ≤ i) (next : Go V (S.retP (.ok (.ret x)) i it (litr pa (k + 1 : Nat) none ⟨[]⟩) 0)) : Go V S := by
  refine Go.call _ none e rfl fun h1 D => ?_
  refine c_next_item (D.own i it _ hi) (lst_is (D.own j pa _ hj)) (i := k) (by simpa using hx) fun h2 h3 h4 F => ?_
  exact Go.from S.m next ((D.step1 hi F h3 hw).at (h4.trans D.size))
/-- a list's end: the exception stands at m + 1 -/
theorem Go.stop {V : Wb} {S : St} (i j it pa k : Nat) (vs : List Value) (n : Nat) (e : callIs S.t = some (.call (.builtin "list_iterator.__next__") ⟨[.ref it], []⟩, none)) (hi : S.T.get i = some (it, litr pa k none ⟨[]⟩)) (hj : S.T.get j = some (pa, lst vs n))
    (hx : vs[k]? = none) (hw : i < V.g1 ∨ V.g2 ≤ i) (hh : (((arOf V.A₀ S.κ).under S.c).mark none).handled = none) (hg : V.g1 ≤ V.g2)
    (hp : ∀ o, (Nat.ble V.g2 (S.m + 1), ((S.T.put i it (litX k none ⟨[]⟩)).put (S.m + 1) (S.nx + 1) o).get (S.m + 1), (S.T.put i it (litX k none ⟨[]⟩)).get (S.m + 1)) = (true, some (S.nx + 1, o), none))
    (next : ∀ dd dt sl, Go V ⟨S.c, S.κ, callK S.t (.error (.ref (S.nx + 1))), (S.T.put i it (litX k none ⟨[]⟩)).put (S.m + 1) (S.nx + 1) (excO dd dt sl), S.m + 2, S.nx + 2, S.tk⟩) : Go V S := by
  refine Go.call _ none e rfl fun h1 D => ?_
  refine c_next_end hh (D.own i it _ hi) (lst_is (D.own j pa _ hj)) (i := k) (by simpa using hx) fun h2 d2 dt s2 he hit hs F => ?_
  dsimp only at he hs F
  have D1 := (D.step1 hi F hit hw).at (hs.trans (congrArg (· + 2) D.size))
  show Means V S.c S.κ (callK S.t (.error (.ref (h1.objs.size + 1)))) _
  have hp' := hp (excO d2 dt s2)
  rw [D.size] at he ⊢
  have D2 := (D.fresh D1 ((D.under).put hi) (b := S.nx + 1) (m := S.m + 1) (o := excO d2 dt s2) (Nat.le_succ _) (Nat.le_succ _) he hg (Nat.le_of_ble_eq_true (congrArg (·.1) hp')) (by rw [show LT.get _ (S.m + 1) = _ from congrArg (·.2.1) hp']; rfl) (congrArg (·.2.2) hp')).1
  exact Go.from (S.m + 2) (next d2 dt s2) D2
end Mine
end
section
namespace Mine
/-- a start from a list of known objects, the first may be changed -/
theorem startM {V : Ws} {h : Heap} {T : LT} {M : List Nat} (l : List (Nat × Obj)) (K : ∀ c y, V.kt.get c = some y → h.get? c = some y) (h2 : V.g2 = l.length) (hl : T.lt l.length = true) (hr : T.rows l.length 0 = l.map some)
    (hh : ∀ p ∈ l, h.get? p.1 = some p.2 ∧ V.kt.get p.1 = none) (hn : (l.map (·.1)).Nodup) (hM : (l.map (·.1)).take V.g1 = M) (hx : V.ex = [] := by rfl) : Rep V h M T h.objs.size h := by
  have key : ∀ i a o, T.get i = some (a, o) → l[i]? = some (a, o) := fun i a o e => by
    have hi := LT.lt_of _ _ hl _ _ _ e
    have z := rows_all T l.length 0 l hr rfl i hi
    rw [Nat.zero_add, e] at z
    exact z.symm
  have key2 : ∀ i a o, T.get i = some (a, o) → (l.map (·.1))[i]? = some a := fun i a o e => by rw [List.getElem?_map, key i a o e]; rfl
  refine Rep.start K (fun i a o e => ?_) (fun i j a o o' e e' => ?_) (fun i a o e => ?_) (fun i a o e hi => ?_) (fun i a o e => ?_) hx
  · exact (hh _ (List.mem_of_getElem? (key _ _ _ e))).1
  · obtain ⟨h3, h4⟩ := List.getElem?_eq_some_iff.mp (key2 _ _ _ e)
    obtain ⟨h5, h6⟩ := List.getElem?_eq_some_iff.mp (key2 _ _ _ e')
    have q := List.pairwise_iff_getElem.mp hn
    rcases Nat.lt_trichotomy i j with x | x | x
    · exact absurd (h4.trans h6.symm) (q i j h3 h5 x)
    · exact x
    · exact absurd (h6.trans h4.symm) (q j i h5 h3 x)
  · exact (hh _ (List.mem_of_getElem? (key _ _ _ e))).2
  · rw [← hM]
    have z := key2 _ _ _ e
    exact List.mem_of_getElem? (i := i) (by rw [List.getElem?_take_of_lt hi, z])
  · rw [h2]; exact LT.lt_of _ _ hl _ _ _ e
noncomputable def sText : Str := ⟨⟨[116, 101, 120, 116]⟩⟩
noncomputable def sWidth : Str := ⟨⟨[119, 105, 100, 116, 104]⟩⟩
noncomputable def sFound : Str := ⟨⟨[102, 111, 117, 110, 100]⟩⟩
noncomputable def sPart : Str := ⟨⟨[112, 97, 114, 116]⟩⟩
noncomputable def sEnds : Str := ⟨⟨[101, 110, 100, 115]⟩⟩
noncomputable def sLow : Str := ⟨⟨[108, 111, 119]⟩⟩
noncomputable def sHigh : Str := ⟨⟨[104, 105, 103, 104]⟩⟩
/-- a part of a prototype: is it short; the numbers of its ends -/
abbrev Pt := Bool × Nat × Nat
noncomputable def ptT (p : Pt) : List Nat := match p.1 with
  | true => numT p.2.2
  | false => joinC 58 [numT p.2.1, numT p.2.2]
noncomputable def ptL (p : Pt) : Int := match p.1 with
  | true => 1
  | false => numV p.2.1
noncomputable def ptH (p : Pt) : Int := numV p.2.2
noncomputable def PtOk (p : Pt) : Prop := p.2.1 < 11 ∧ p.2.2 < 11 ∧ ptL p ≤ ptH p
theorem numT_no : ∀ i, i < 11 → 44 ∉ numT i ∧ 58 ∉ numT i ∧ 1 ≤ (numT i).length ∧ (numT i).length ≤ 10 := by
  refine lt11 ?_ ?_ ?_ ?_ ?_ ?_ ?_ ?_ ?_ ?_ ?_ <;> decide
theorem ptT_no {p : Pt} (h : PtOk p) : 44 ∉ ptT p ∧ 1 ≤ (ptT p).length ∧ (ptT p).length ≤ 21 := by
  obtain ⟨s, i, j⟩ := p
  obtain ⟨hi, hj, _⟩ := h
  obtain ⟨a1, a2, a3, a4⟩ := numT_no i hi
  obtain ⟨b1, b2, b3, b4⟩ := numT_no j hj
  cases s
  · show 44 ∉ numT i ++ 58 :: numT j ∧ 1 ≤ (numT i ++ 58 :: numT j).length ∧ (numT i ++ 58 :: numT j).length ≤ 21
    simp only [List.mem_append, List.mem_cons, List.length_append, List.length_cons]
    refine ⟨?_, ?_, ?_⟩
    · rintro (q | q | q)
      · exact a1 q
      · cases q
      · exact b1 q
    · omega
    · omega
  · show 44 ∉ numT j ∧ 1 ≤ (numT j).length ∧ (numT j).length ≤ 21
    exact ⟨b1, b3, by omega⟩
noncomputable def forC (b : List Stmt) (k : Nat) (it : Value) (env : Env) : Code := match b[k]? with
  | some (.For t _ bd e _) => .forLoop t it bd e env
  | _ => .builtin "" {}
noncomputable def rdEnv (fr : Nat) : Env := ⟨fdS (st 18), fr, 3, [], ⟨⟨[114, 101, 97, 100, 95, 98, 111, 117, 110, 100, 115, 46, 60, 108, 111, 99, 97, 108, 115, 62, 46]⟩⟩, some 231, .ref 230, some fr, 0⟩
noncomputable def cR (it fr : Nat) : Code := forC (fdB (st 18)) 1 (.ref it) (rdEnv fr)
noncomputable def rdF (P : Params) (fo k0 : Nat) (X : Value) (k1 tw k2 : Nat) (more : List DictEntry) (n : Nat) : Obj :=
  ⟨.type "frame", none, .dict ⟨⟨kh P sText, .str sText k0, X⟩ :: ⟨kh P sWidth, .str sWidth k1, .int 32 tw⟩ :: ⟨kh P sFound, .str sFound k2, .ref fo⟩ :: more⟩ n, ⟨[]⟩⟩
noncomputable def rdM (P : Params) (k3 : Nat) (v3 : Value) (k4 : Nat) (v4 : Value) (k5 : Nat) (v5 : Value) (k6 : Nat) (v6 : Value) : List DictEntry :=
  [⟨kh P sPart, .str sPart k3, v3⟩, ⟨kh P sEnds, .str sEnds k4, v4⟩, ⟨kh P sLow, .str sLow k5, v5⟩, ⟨kh P sHigh, .str sHigh k6, v6⟩]
noncomputable def RdMore (P : Params) (more : List DictEntry) (n : Nat) : Prop := (more = [] ∧ n = 3) ∨ ∃ k3 v3 k4 v4 k5 v5 k6 v6, more = rdM P k3 v3 k4 v4 k5 v5 k6 v6 ∧ n = 7
noncomputable def rdMOf (P : Params) (o : Obj) : List DictEntry := rdM P (kTok o 3) (vAt o 3) (kTok o 4) (vAt o 4) (kTok o 5) (vAt o 5) (kTok o 6) (vAt o 6)
noncomputable def bdAt (T : LT) (i : Nat) (lo hi : Int) : Bd := ⟨addrAt T i, lo, tokOf ((seqAt (objAt T i)).headD .none), hi, tokOf ((seqAt (objAt T i)).tail.headD .none)⟩
noncomputable def rdL (it i pa fo : Nat) (found : List Value) (n fr : Nat) (ob : Obj) (vs : List Value) : List (Nat × Obj) := [(it, litr pa i none ⟨[]⟩), (fo, lst found n), (fr, ob), (pa, lst vs 0)]
noncomputable def rdV (w : World) (dp un : Nat) (fr : Option (List Env)) (gu : Option (List Code)) (h : Heap) (M : List Nat) (R : Result → Shared → Prop) (d : Drawn) (os : OsState) : Wb :=
  ⟨⟨PySem.Challenge.pw_pf0369_01, w, ⟨none, dp, fr, gu, un⟩, 600, 3, 4, kq w.params, []⟩, h, M, R, d, os⟩
noncomputable def rdS (w : World) (dp un : Nat) (f : Option (List Env)) (gu : Option (List Code)) (h : Heap) (M : List Nat) (R : Result → Shared → Prop) (d : Drawn) (os : OsState) (it i pa fo : Nat) (found : List Value) (n fr : Nat) (ob : Obj) (vs : List Value) (t0 : Nat) : St :=
  ⟨cR it fr, [], dz (cR it fr), LT.of 0 (rdL it i pa fo found n fr ob vs) .nil, 4, h.objs.size, t0⟩
theorem Go.end5 {V : Wb} {S : St} (g : LT → LT) (c' : Code) (hκ : S.κ = []) (e : S.t = .pure (.again c')) (hl : (g S.T).lt 5 = true) (hm : (g S.T).rows 5 0 = [0, 1, 2, 3, 5].map S.T.get) (hn : [0, 1, 2, 3, 5].Nodup) (hs : sameSide V.toWs [0, 1, 2, 3, 5] 0 = true) (hq : c'.quiet = true)
    (h : ∀ h', Rep V.toWs V.h₀ V.M (g S.T) S.nx h' → codeAny (model V.prog V.w) V.A₀ c' V.R₀ ⟨h', #[], V.d, S.tk, V.os⟩) : Go V S :=
  Go.again c' hκ e hq fun h' D => h h' (D.cut [0, 1, 2, 3, 5] (g S.T) hl hm hn hs)
section
variable (w : World) (b1 : Bool) (dp un : Nat) (f : Option (List Env)) (gu : Option (List Code)) (h : Heap) (R : Result → Shared → Prop) (d : Drawn) (os : OsState) (it pa fo n fr : Nat) (found vs : List Value) (t0 k0 : Nat) (X : Value) (k1 tw k2 : Nat)
theorem rd_turnS (hA' : dp ≤ 580) (i i1 j1 tq : Nat) (more : List DictEntry) (nn : Nat) (hm : RdMore (vf w b1).params more nn) (hx : vs[i]? = some (.str ⟨⟨ptT (true, i1, j1)⟩⟩ tq)) (hok : PtOk (true, i1, j1)) (hf : found.length ≤ 100)
    (next : ∀ (b : Bd) more' h' t', b.lo = ptL (true, i1, j1) → b.hi = ptH (true, i1, j1) → RdMore (vf w b1).params more' 7 → Rep (rdV (vf w b1) dp un f gu h [it, fo, fr] R d os).toWs h [it, fo, fr] (LT.of 0 (rdL it (i + 1) pa fo (found ++ [.ref b.a]) (n + 1) fr (rdF (vf w b1).params fo k0 X k1 tw k2 more' 7) vs ++ [(b.a, b.obj)]) .nil) h'.objs.size h' → codeAny (model PySem.Challenge.pw_pf0369_01 (vf w b1)) ⟨none, dp, f, gu, un⟩ (cR it fr) R ⟨h', #[], d, t', os⟩) :
    Go (rdV (vf w b1) dp un f gu h [it, fo, fr] R d os) (rdS (vf w b1) dp un f gu h [it, fo, fr] R d os it i pa fo found n fr (rdF (vf w b1).params fo k0 X k1 tw k2 more nn) vs t0) := by
  have hA : dp ≤ 600 := Nat.le_trans hA' (by decide)
  obtain ⟨hi, hj, hle⟩ := hok
  obtain ⟨a1, a2, a3, a4⟩ := numT_no i1 hi
  obtain ⟨c1, c2, c3, c4⟩ := numT_no j1 hj
  have hlt : decide (ptH (true, i1, j1) < ptL (true, i1, j1)) = false := decide_eq_false (Int.not_lt.mpr hle)
  rcases hm with ⟨rfl, rfl⟩ | ⟨q3, v3, q4, v4, q5, v5, q6, v6, rfl, rfl⟩
  all_goals
    refine seg hA (by show 3 ≤ 4; decide) 2 1 (by refine bk b1 ?_ ?_ <;> kernel_rfl) (by refine bk b1 ?_ ?_ <;> kernel_rfl) ?_
    refine Go.item 0 3 it pa i vs 0 (.str ⟨⟨ptT (true, i1, j1)⟩⟩ tq) (by refine bk b1 ?_ ?_ <;> kernel_rfl) (by refine bk b1 ?_ ?_ <;> kernel_rfl) (by refine bk b1 ?_ ?_ <;> kernel_rfl) hx (.inl (by show 0 < 3; decide)) ?_
    refine seg hA (by show 3 ≤ 4; decide) 14 787971 (by refine bk b1 ?_ ?_ <;> kernel_rfl) (by refine bk b1 ?_ ?_ <;> kernel_rfl) ?_
    refine Go.callAlloc (.call (.builtin "str.split") ⟨[.str ⟨⟨numT j1⟩⟩ tq, .str ⟨⟨[58]⟩⟩ (t0 + 1)], []⟩) (fun _ => lst [.str ⟨⟨numT j1⟩⟩ tq] 0) 0 (by refine bk b1 ?_ ?_ <;> kernel_rfl) rfl (by show 3 ≤ 4; decide) (by refine bk b1 ?_ ?_ <;> kernel_rfl) (fun h3 R3 D3 post => c_split1 (by decide) c3 c2 post) ?_
    refine seg hA (by show 3 ≤ 4; decide) 92 619076812416833365710553198591430578995269838205979918709294595 (by refine bk b1 ?_ ?_ <;> kernel_rfl) (by refine bk b1 ?_ ?_ <;> kernel_rfl) ?_
    refine Go.in224 j1 dp rfl rfl (by refine bk b1 ?_ ?_ <;> kernel_rfl) hj (by refine bk b1 ?_ ?_ <;> kernel_rfl) (by omega) fun u2 nx2 t2 => ?_
    refine seg hA (by show 3 ≤ 4; decide) 15 403441155 (by refine bk b1 ?_ ?_ <;> kernel_rfl) (by refine bk b1 ?_ ?_ <;> kernel_rfl) ?_
    refine Go.ilt (ptH (true, i1, j1)) (ptL (true, i1, j1)) false (by refine bk b1 ?_ ?_ <;> kernel_rfl) hlt ?_
    refine seg hA (by show 3 ≤ 4; decide) 16 54148886352626691 (by refine bk b1 ?_ ?_ <;> kernel_rfl) (by refine bk b1 ?_ ?_ <;> kernel_rfl) ?_
    refine Go.append 1 fo found n (.ref nx2) (by refine bk b1 ?_ ?_ <;> kernel_rfl) (by refine bk b1 ?_ ?_ <;> kernel_rfl) (by omega) (.inl (by show 1 < 3; decide)) ?_
    refine seg hA (by show 3 ≤ 4; decide) 1 0 (by refine bk b1 ?_ ?_ <;> kernel_rfl) (by refine bk b1 ?_ ?_ <;> kernel_rfl) ?_
    refine Go.end5 (fun T => LT.of 0 (rdL it (i + 1) pa fo (found ++ [.ref (bdAt T 5 (ptL (true, i1, j1)) (ptH (true, i1, j1))).a]) (n + 1) fr (rdF (vf w b1).params fo k0 X k1 tw k2 (rdMOf (vf w b1).params (objAt T 2)) 7) vs ++ [((bdAt T 5 (ptL (true, i1, j1)) (ptH (true, i1, j1))).a, (bdAt T 5 (ptL (true, i1, j1)) (ptH (true, i1, j1))).obj)]) .nil) (cR it fr) (by refine bk b1 ?_ ?_ <;> kernel_rfl) (by refine bk b1 ?_ ?_ <;> kernel_rfl) (by refine bk b1 ?_ ?_ <;> kernel_rfl) (by refine bk b1 ?_ ?_ <;> kernel_rfl) (by decide) (by refine bk b1 ?_ ?_ <;> kernel_rfl) (by refine bk b1 ?_ ?_ <;> kernel_rfl) fun h' D => ?_
    exact next _ _ h' _ rfl rfl (.inr ⟨_, _, _, _, _, _, _, _, rfl, rfl⟩) (D.at D.size.symm)
theorem rd_turnL (hA' : dp ≤ 580) (i i1 j1 tq : Nat) (more : List DictEntry) (nn : Nat) (hm : RdMore (vf w b1).params more nn) (hx : vs[i]? = some (.str ⟨⟨ptT (false, i1, j1)⟩⟩ tq)) (hok : PtOk (false, i1, j1)) (hf : found.length ≤ 100)
    (next : ∀ (b : Bd) more' h' t', b.lo = ptL (false, i1, j1) → b.hi = ptH (false, i1, j1) → RdMore (vf w b1).params more' 7 → Rep (rdV (vf w b1) dp un f gu h [it, fo, fr] R d os).toWs h [it, fo, fr] (LT.of 0 (rdL it (i + 1) pa fo (found ++ [.ref b.a]) (n + 1) fr (rdF (vf w b1).params fo k0 X k1 tw k2 more' 7) vs ++ [(b.a, b.obj)]) .nil) h'.objs.size h' → codeAny (model PySem.Challenge.pw_pf0369_01 (vf w b1)) ⟨none, dp, f, gu, un⟩ (cR it fr) R ⟨h', #[], d, t', os⟩) :
    Go (rdV (vf w b1) dp un f gu h [it, fo, fr] R d os) (rdS (vf w b1) dp un f gu h [it, fo, fr] R d os it i pa fo found n fr (rdF (vf w b1).params fo k0 X k1 tw k2 more nn) vs t0) := by
  have hA : dp ≤ 600 := Nat.le_trans hA' (by decide)
  obtain ⟨hi, hj, hle⟩ := hok
  obtain ⟨a1, a2, a3, a4⟩ := numT_no i1 hi
  obtain ⟨c1, c2, c3, c4⟩ := numT_no j1 hj
  have hlt : decide (ptH (false, i1, j1) < ptL (false, i1, j1)) = false := decide_eq_false (Int.not_lt.mpr hle)
  rcases hm with ⟨rfl, rfl⟩ | ⟨q3, v3, q4, v4, q5, v5, q6, v6, rfl, rfl⟩
  all_goals
    refine seg hA (by show 3 ≤ 4; decide) 2 1 (by refine bk b1 ?_ ?_ <;> kernel_rfl) (by refine bk b1 ?_ ?_ <;> kernel_rfl) ?_
    refine Go.item 0 3 it pa i vs 0 (.str ⟨⟨ptT (false, i1, j1)⟩⟩ tq) (by refine bk b1 ?_ ?_ <;> kernel_rfl) (by refine bk b1 ?_ ?_ <;> kernel_rfl) (by refine bk b1 ?_ ?_ <;> kernel_rfl) hx (.inl (by show 0 < 3; decide)) ?_
    refine seg hA (by show 3 ≤ 4; decide) 14 787971 (by refine bk b1 ?_ ?_ <;> kernel_rfl) (by refine bk b1 ?_ ?_ <;> kernel_rfl) ?_
    refine Go.callAlloc (.call (.builtin "str.split") ⟨[.str ⟨⟨joinC 58 [numT i1, numT j1]⟩⟩ tq, .str ⟨⟨[58]⟩⟩ (t0 + 1)], []⟩) (fun tk => lst (strL (strF tk [numT i1, numT j1])) 0) 2 (by refine bk b1 ?_ ?_ <;> kernel_rfl) rfl (by show 3 ≤ 4; decide) (by refine bk b1 ?_ ?_ <;> kernel_rfl) (fun h3 R3 D3 post => c_split (by decide) (by show 2 ≤ 2; decide) (by show 2 ≤ 100; decide) (by simp only [joinC, List.length_append, List.length_cons]; omega) (by simp only [List.mem_cons, List.not_mem_nil, or_false]; rintro p (rfl | rfl) <;> assumption) post) ?_
    refine seg hA (by show 3 ≤ 4; decide) 78 2361590623538335287897645877906393393614286506278728500739 (by refine bk b1 ?_ ?_ <;> kernel_rfl) (by refine bk b1 ?_ ?_ <;> kernel_rfl) ?_
    refine Go.in224 i1 dp rfl rfl (by refine bk b1 ?_ ?_ <;> kernel_rfl) hi (by refine bk b1 ?_ ?_ <;> kernel_rfl) (by omega) fun u1 nx1 t1 => ?_
    refine seg hA (by show 3 ≤ 4; decide) 32 7277212957210565956077059 (by refine bk b1 ?_ ?_ <;> kernel_rfl) (by refine bk b1 ?_ ?_ <;> kernel_rfl) ?_
    refine Go.in224 j1 dp rfl rfl (by refine bk b1 ?_ ?_ <;> kernel_rfl) hj (by refine bk b1 ?_ ?_ <;> kernel_rfl) (by omega) fun u2 nx2 t2 => ?_
    refine seg hA (by show 3 ≤ 4; decide) 15 403441155 (by refine bk b1 ?_ ?_ <;> kernel_rfl) (by refine bk b1 ?_ ?_ <;> kernel_rfl) ?_
    refine Go.ilt (ptH (false, i1, j1)) (ptL (false, i1, j1)) false (by refine bk b1 ?_ ?_ <;> kernel_rfl) hlt ?_
    refine seg hA (by show 3 ≤ 4; decide) 16 54148886352626691 (by refine bk b1 ?_ ?_ <;> kernel_rfl) (by refine bk b1 ?_ ?_ <;> kernel_rfl) ?_
    refine Go.append 1 fo found n (.ref nx2) (by refine bk b1 ?_ ?_ <;> kernel_rfl) (by refine bk b1 ?_ ?_ <;> kernel_rfl) (by omega) (.inl (by show 1 < 3; decide)) ?_
    refine seg hA (by show 3 ≤ 4; decide) 1 0 (by refine bk b1 ?_ ?_ <;> kernel_rfl) (by refine bk b1 ?_ ?_ <;> kernel_rfl) ?_
    refine Go.end5 (fun T => LT.of 0 (rdL it (i + 1) pa fo (found ++ [.ref (bdAt T 5 (ptL (false, i1, j1)) (ptH (false, i1, j1))).a]) (n + 1) fr (rdF (vf w b1).params fo k0 X k1 tw k2 (rdMOf (vf w b1).params (objAt T 2)) 7) vs ++ [((bdAt T 5 (ptL (false, i1, j1)) (ptH (false, i1, j1))).a, (bdAt T 5 (ptL (false, i1, j1)) (ptH (false, i1, j1))).obj)]) .nil) (cR it fr) (by refine bk b1 ?_ ?_ <;> kernel_rfl) (by refine bk b1 ?_ ?_ <;> kernel_rfl) (by refine bk b1 ?_ ?_ <;> kernel_rfl) (by refine bk b1 ?_ ?_ <;> kernel_rfl) (by decide) (by refine bk b1 ?_ ?_ <;> kernel_rfl) (by refine bk b1 ?_ ?_ <;> kernel_rfl) fun h' D => ?_
    exact next _ _ h' _ rfl rfl (.inr ⟨_, _, _, _, _, _, _, _, rfl, rfl⟩) (D.at D.size.symm)
end
theorem drop_cons {vs : List Value} {i : Nat} {x : Value} {l : List Value} (e : vs.drop i = x :: l) : vs[i]? = some x ∧ vs.drop (i + 1) = l := by
  constructor
  · have : (vs.drop i)[0]? = some x := by rw [e]; rfl
    simpa using this
  · rw [← List.drop_drop, e]; rfl
theorem bdRefs_app (l : List Value) (b : Bd) (bs : List Bd) : l ++ [.ref b.a] ++ bdRefs bs = l ++ bdRefs (b :: bs) := by simp [bdRefs]
theorem rd_loop (w : World) (b1 : Bool) : ∀ (ps : List Pt), (∀ p ∈ ps, PtOk p) → ∀ (A : Around) (h : Heap) (R : Result → Shared → Prop) (d : Drawn) (os : OsState) (it pa fo n fr i : Nat) (found vs : List Value) (t0 k0 : Nat) (X : Value) (k1 tw k2 : Nat) (more : List DictEntry) (nn : Nat) (qs : List (List Nat × Tok)),
    A.handled = none → A.depth ≤ 580 → Known (vf w b1).params h → (∀ p ∈ rdL it i pa fo found n fr (rdF (vf w b1).params fo k0 X k1 tw k2 more nn) vs, h.get? p.1 = some p.2 ∧ (kq (vf w b1).params).get p.1 = none) → [it, fo, fr, pa].Nodup →
    RdMore (vf w b1).params more nn → vs.drop i = strL qs → qs.map (·.1) = ps.map ptT → found.length + ps.length ≤ 100 →
    (∀ (h' : Heap) (t' : Nat) (bs : List Bd) (n' : Nat) (more' : List DictEntry) (nn' : Nat), Aft h h' [it, fo, fr] → h'.get? fo = some (lst (found ++ bdRefs bs) n') → RdMore (vf w b1).params more' nn' → h'.get? fr = some (rdF (vf w b1).params fo k0 X k1 tw k2 more' nn') →
      (∀ b ∈ bs, h'.get? b.a = some b.obj ∧ (kq (vf w b1).params).get b.a = none ∧ h.get? b.a = none) → (bs.map (·.a)).Nodup → bs.map (fun b => (b.lo, b.hi)) = ps.map (fun p => (ptL p, ptH p)) → R (.ok .next) ⟨h', #[], d, t', os⟩) →
    codeAny (model PySem.Challenge.pw_pf0369_01 (vf w b1)) A (cR it fr) R ⟨h, #[], d, t0, os⟩
  | [], _, A, h, R, d, os, it, pa, fo, n, fr, i, found, vs, t0, k0, X, k1, tw, k2, more, nn, qs, hA, hd, K, hh, hn, hm, hq, hp, hl, post => by
    obtain ⟨ha, dp, f, gu, un⟩ := A
    cases hA
    have hA : dp ≤ 600 := Nat.le_trans hd (by decide)
    have hq0 : qs = [] := by simpa using hp
    subst hq0
    have hx : vs[i]? = none := List.getElem?_eq_none (List.drop_eq_nil_iff.mp hq)
    refine enter (V := rdV (vf w b1) dp un f gu h [it, fo, fr] R d os) (T := LT.of 0 (rdL it i pa fo found n fr (rdF (vf w b1).params fo k0 X k1 tw k2 more nn) vs) .nil) (m := 4) hA (by show 600 < 1000; decide) (startM _ K rfl (by kernel_rfl) (by kernel_rfl) hh hn rfl) ?_
    refine seg hA (by show 3 ≤ 4; decide) 2 1 (by refine bk b1 ?_ ?_ <;> kernel_rfl) (by refine bk b1 ?_ ?_ <;> kernel_rfl) ?_
    refine Go.stop 0 3 it pa i vs 0 (by refine bk b1 ?_ ?_ <;> kernel_rfl) (by refine bk b1 ?_ ?_ <;> kernel_rfl) (by refine bk b1 ?_ ?_ <;> kernel_rfl) hx (.inl (by show 0 < 3; decide)) (by refine bk b1 ?_ ?_ <;> kernel_rfl) (by show 3 ≤ 4; decide) (fun o => (by refine bk b1 ?_ ?_ <;> kernel_rfl)) fun dd dt sl => ?_
    refine seg hA (by show 3 ≤ 4; decide) 2 6 (by refine bk b1 ?_ ?_ <;> kernel_rfl) (by refine bk b1 ?_ ?_ <;> kernel_rfl) ?_
    refine Go.done .next (by refine bk b1 ?_ ?_ <;> kernel_rfl) (by refine bk b1 ?_ ?_ <;> kernel_rfl) fun h' D => ?_
    refine post h' _ [] n more nn D.aft ?_ hm (D.own 2 fr (rdF (vf w b1).params fo k0 X k1 tw k2 more nn) (by refine bk b1 ?_ ?_ <;> kernel_rfl)) (by simp) (by simp) rfl
    rw [show found ++ bdRefs [] = found from List.append_nil _]
    exact D.own 1 fo (lst found n) (by refine bk b1 ?_ ?_ <;> kernel_rfl)
  | p :: ps, hok, A, h, R, d, os, it, pa, fo, n, fr, i, found, vs, t0, k0, X, k1, tw, k2, more, nn, qs, hA, hd, K, hh, hn, hm, hq, hp, hl, post => by
    obtain ⟨ha, dp, f, gu, un⟩ := A
    cases hA
    have hA : dp ≤ 600 := Nat.le_trans hd (by decide)
    rcases qs with _ | ⟨⟨x, tq⟩, qs⟩
    · cases hp
    rw [List.map_cons, List.map_cons] at hp
    injection hp with hp1 hp2
    dsimp only at hp1
    subst hp1
    obtain ⟨hx, hq'⟩ := drop_cons hq
    have key : ∀ (b : Bd) (more' : List DictEntry) (h1 : Heap) (t1 : Nat), b.lo = ptL p → b.hi = ptH p → RdMore (vf w b1).params more' 7 → Rep (rdV (vf w b1) dp un f gu h [it, fo, fr] R d os).toWs h [it, fo, fr] (LT.of 0 (rdL it (i + 1) pa fo (found ++ [.ref b.a]) (n + 1) fr (rdF (vf w b1).params fo k0 X k1 tw k2 more' 7) vs ++ [(b.a, b.obj)]) .nil) h1.objs.size h1 → codeAny (model PySem.Challenge.pw_pf0369_01 (vf w b1)) ⟨none, dp, f, gu, un⟩ (cR it fr) R ⟨h1, #[], d, t1, os⟩ := by
      intro b more' h1 t1 hlo hhi hm' D
      have o0 := D.own 0 it (litr pa (i + 1 : Nat) none ⟨[]⟩) (by kernel_rfl)
      have o1 := D.own 1 fo (lst (found ++ [.ref b.a]) (n + 1)) (by kernel_rfl)
      have o2 := D.own 2 fr (rdF (vf w b1).params fo k0 X k1 tw k2 more' 7) (by kernel_rfl)
      have o3 := D.own 3 pa (lst vs 0) (by kernel_rfl)
      have o4 := D.own 4 b.a b.obj (by kernel_rfl)
      have f0 := D.off 0 it (litr pa (i + 1 : Nat) none ⟨[]⟩) (by kernel_rfl)
      have f1 := D.off 1 fo (lst (found ++ [.ref b.a]) (n + 1)) (by kernel_rfl)
      have f2 := D.off 2 fr (rdF (vf w b1).params fo k0 X k1 tw k2 more' 7) (by kernel_rfl)
      have f3 := D.off 3 pa (lst vs 0) (by kernel_rfl)
      have f4 := D.off 4 b.a b.obj (by kernel_rfl)
      have hnew : h.get? b.a = none := D.new 4 b.a b.obj (by kernel_rfl) (by show 4 ≤ 4; decide)
      have hin : ∀ a ∈ [it, fo, fr], h.get? a ≠ none := by
        have g0 := (hh (it, litr pa i none ⟨[]⟩) (by simp [rdL])).1
        have g1 := (hh (fo, lst found n) (by simp [rdL])).1
        have g2 := (hh (fr, rdF (vf w b1).params fo k0 X k1 tw k2 more nn) (by simp [rdL])).1
        intro a ha
        simp only [List.mem_cons, List.not_mem_nil, or_false] at ha
        rcases ha with rfl | rfl | rfl <;> simp_all
      have hnot : b.a ∉ [it, fo, fr] := fun hm => hin _ hm hnew
      refine rd_loop w b1 ps (fun q hq => hok q (List.mem_cons_of_mem _ hq)) ⟨none, dp, f, gu, un⟩ h1 R d os it pa fo (n + 1) fr (i + 1) (found ++ [.ref b.a]) vs t1 k0 X k1 tw k2 more' 7 qs rfl hd D.known ?_ hn hm' hq' hp2 (by simp only [List.length_append, List.length_cons, List.length_nil] at hl ⊢; omega) ?_
      · intro q hq
        simp only [rdL, List.mem_cons, List.not_mem_nil, or_false] at hq
        rcases hq with rfl | rfl | rfl | rfl
        · exact ⟨o0, f0⟩
        · exact ⟨o1, f1⟩
        · exact ⟨o2, f2⟩
        · exact ⟨o3, f3⟩
      · intro h' t' bs n' m2 nn2 F hf hm2 hfr hb hnd hmap
        refine post h' t' (b :: bs) n' m2 nn2 (D.aft.trans F) (by rw [← bdRefs_app]; exact hf) hm2 hfr ?_ ?_ ?_
        · intro c hc
          rcases List.mem_cons.mp hc with rfl | hc
          · exact ⟨F.keep _ _ o4 hnot, f4, hnew⟩
          · obtain ⟨x1, x2, x3⟩ := hb c hc
            refine ⟨x1, x2, ?_⟩
            cases q : h.get? c.a with
            | none => rfl
            | some o =>
              exfalso
              by_cases hm : c.a ∈ [it, fo, fr]
              · simp only [List.mem_cons, List.not_mem_nil, or_false] at hm
                rcases hm with e | e | e <;> rw [e] at x3 <;> simp_all
              · rw [D.keep _ _ q hm] at x3
                cases x3
        · rw [List.map_cons, List.nodup_cons]
          refine ⟨fun hm => ?_, hnd⟩
          obtain ⟨c, hc, e⟩ := List.mem_map.mp hm
          have := (hb c hc).2.2
          rw [e, o4] at this
          cases this
        · rw [List.map_cons, List.map_cons, hmap, hlo, hhi]
    have hok1 := hok p (by simp)
    refine enter (V := rdV (vf w b1) dp un f gu h [it, fo, fr] R d os) (T := LT.of 0 (rdL it i pa fo found n fr (rdF (vf w b1).params fo k0 X k1 tw k2 more nn) vs) .nil) (m := 4) hA (by show 600 < 1000; decide) (startM _ K rfl (by kernel_rfl) (by kernel_rfl) hh hn rfl) ?_
    have hlf : found.length ≤ 100 := by omega
    obtain ⟨s, i1, j1⟩ := p
    cases s
    · exact rd_turnL w b1 dp un f gu h R d os it pa fo n fr found vs t0 k0 X k1 tw k2 hd i i1 j1 tq more nn hm hx hok1 hlf key
    · exact rd_turnS w b1 dp un f gu h R d os it pa fo n fr found vs t0 k0 X k1 tw k2 hd i i1 j1 tq more nn hm hx hok1 hlf key
end Mine
end
section
namespace Mine
/-- behind a call that changes several objects -/
theorem Rep.stepN {V : Ws} {h₀ h h' : Heap} {M : List Nat} {T T' : LT} {nx : Nat} (D : Rep V h₀ M T nx h) {M' : List Nat} (F : Aft h h' M')
    (hT : ∀ i a o, T'.get i = some (a, o) → h'.get? a = some o ∧ ∃ o0, T.get i = some (a, o0)) (hM : ∀ a ∈ M', ∃ i o0, T.get i = some (a, o0) ∧ (i < V.g1 ∨ V.g2 ≤ i)) : Rep V h₀ M T' h'.objs.size h' := by
  refine ⟨rfl, fun i a o e => (hT i a o e).1, fun i j a o o' e e' => ?_, fun i a o e => ?_, fun a o e => ?_, fun i a o e hi => ?_, fun i a o e hi => ?_, fun c o e q => ?_, Nat.le_trans D.more F.more, fun p hp => ⟨F.keep _ _ (D.xs p hp).1 fun hm => ?_, fun i a o e => ?_⟩⟩
  · obtain ⟨_, _, e1⟩ := hT _ _ _ e
    obtain ⟨_, _, e2⟩ := hT _ _ _ e'
    exact D.one _ _ _ _ _ e1 e2
  · obtain ⟨_, _, e1⟩ := hT _ _ _ e; exact D.off _ _ _ e1
  · refine F.keep _ _ (D.known _ _ e) fun hm => ?_
    obtain ⟨i, o0, e1, _⟩ := hM _ hm
    have := D.off _ _ _ e1
    rw [e] at this; cases this
  · obtain ⟨_, _, e1⟩ := hT _ _ _ e; exact D.may _ _ _ e1 hi
  · obtain ⟨_, _, e1⟩ := hT _ _ _ e; exact D.new _ _ _ e1 hi
  · refine F.keep _ _ (D.keep _ _ e q) fun hm => ?_
    obtain ⟨i, o0, e1, hi⟩ := hM _ hm
    rcases hi with hi | hi
    · exact q (D.may _ _ _ e1 hi)
    · have := D.new _ _ _ e1 hi
      rw [e] at this; cases this
  · obtain ⟨i, o0, e1, _⟩ := hM _ hm
    exact (D.xs p hp).2 _ _ _ e1 rfl
  · obtain ⟨_, o0, e1⟩ := hT _ _ _ e
    exact (D.xs p hp).2 _ _ _ e1
/-- from here on the heap of now is what is kept -/
noncomputable def Wb.base (V : Wb) (n : Nat) (h : Heap) : Wb := ⟨⟨V.prog, V.w, V.A₀, V.dm, 0, n, V.kt, V.ex⟩, h, [], V.R₀, V.d, V.os⟩
theorem Go.rebase {V : Wb} {c : Code} {κ : Ko} {t : Sem PySem.Fin} {T : LT} (n m : Nat) {nx tk : Nat} {h : Heap} (D : Rep V.toWs V.h₀ V.M T nx h) (hl : T.lt n = true) (G : Go (V.base n h) ⟨c, κ, t, T, m, nx, tk⟩) : Means V c κ t ⟨h, #[], V.d, tk, V.os⟩ :=
  G h ⟨D.size, D.own, D.one, D.off, D.known, fun _ _ _ _ hi => absurd hi (Nat.not_lt_zero _), fun i _ _ e hi => absurd (LT.lt_of _ _ hl _ _ _ e) (Nat.not_lt.mpr hi), fun _ _ e _ => e, Nat.le_refl _, D.xs⟩
theorem pairT {a b : Nat} {o x : Obj} {i c : Nat} {y : Obj} (e : (LT.of 0 [(a, o), (b, x)] .nil).get i = some (c, y)) : (i = 0 ∧ c = a ∧ y = o) ∨ (i = 1 ∧ c = b ∧ y = x) := T2_get e
theorem strL_strF : ∀ (ps : List (List Nat)) (k : Nat), (strF k ps).map (·.1) = ps
  | [], _ => rfl
  | p :: ps, k => by rw [strF, List.map_cons, strL_strF ps (k + 1)]
/-- read_bounds(text, 32) -/
noncomputable def ReadSpec (w : World) : Prop := ∀ (A : Around) (h : Heap) (ps : List Pt) (t tw t0 : Nat) (d : Drawn) (os : OsState) (R : Result → Shared → Prop),
  A.handled = none → A.depth ≤ 570 → Known w.params h → ps ≠ [] → ps.length ≤ 3 → (∀ p ∈ ps, PtOk p) →
  (∀ (h' : Heap) (t' ba n : Nat) (bs : List Bd), Aft h h' [] → (∀ p ∈ (ba, lst (bdRefs bs) n) :: bdObjs bs, h'.get? p.1 = some p.2 ∧ (kq w.params).get p.1 = none ∧ h.get? p.1 = none) → (((ba, lst (bdRefs bs) n) :: bdObjs bs).map (·.1)).Nodup →
    bs.map (fun b => (b.lo, b.hi)) = ps.map (fun p => (ptL p, ptH p)) → R (.ok (.ret (.ref ba))) ⟨h', #[], d, t', os⟩) →
  codeAny (model PySem.Challenge.pw_pf0369_01 w) A (.call (.ref 231) ⟨[.str ⟨⟨joinC 44 (ps.map ptT)⟩⟩ t, .int 32 tw], []⟩) R ⟨h, #[], d, t0, os⟩
theorem bdObjs_mem (bs : List Bd) (p : Nat × Obj) (h : p ∈ bdObjs bs) : ∃ b ∈ bs, p = (b.a, b.obj) := by
  induction bs with
  | nil => cases h
  | cons b bs ih =>
    rcases List.mem_cons.mp h with rfl | h
    · exact ⟨b, by simp, rfl⟩
    · obtain ⟨c, hc, e⟩ := ih h
      exact ⟨c, List.mem_cons_of_mem _ hc, e⟩
theorem bdObjs_map : ∀ (bs : List Bd), (bdObjs bs).map (·.1) = bs.map (·.a)
  | [] => rfl
  | b :: bs => by rw [bdObjs, List.map_cons, List.map_cons, bdObjs_map bs]
theorem joinC_len {c : Nat} (l : Nat) : ∀ (ps : List (List Nat)), (∀ p ∈ ps, p.length ≤ l) → (joinC c ps).length ≤ ps.length * (l + 1)
  | [], _ => by simp [joinC]
  | [p], h => by
    have := h p (by simp)
    simp [joinC]; omega
  | p :: q :: r, h => by
    have h1 := h p (by simp)
    have z := joinC_len (c := c) l (q :: r) fun x hx => h x (List.mem_cons_of_mem _ hx)
    rw [joinC, List.length_append, List.length_cons, List.length_cons, Nat.succ_mul]
    omega
theorem read_spec : ∀ w, ReadSpec w := by
  refine worldsB fun w b1 => ?_
  intro A h ps t tw t0 d os R hA hd K hne hl3 hok post
  obtain ⟨ha, dp, fr, gu, un⟩ := A
  cases hA
  have hd : dp ≤ 570 := hd
  have hA : dp ≤ 600 := Nat.le_trans hd (by decide)
  have hT : ∀ x ∈ ps.map ptT, 44 ∉ x ∧ 1 ≤ x.length ∧ x.length ≤ 21 := by
    intro x hx
    obtain ⟨p, hp, rfl⟩ := List.mem_map.mp hx
    exact ptT_no (hok p hp)
  have step : ∀ (vs : List Value) (qs : List (List Nat × Tok)) (dt : Nat), vs = strL qs → qs.map (·.1) = ps.map ptT →
      (∀ (s : Shared) (A' : Around) (R' : Result → Shared → Prop), s.toks = t0 + 4 → R' (.ok (.ret (.ref s.heap.objs.size))) { s with toks := s.toks + dt, heap := s.heap.push (lst vs 0) } → codeAny (model PySem.Challenge.pw_pf0369_01 (vf w b1)) A' (.call (.builtin "str.split") ⟨[.str ⟨⟨joinC 44 (ps.map ptT)⟩⟩ t, .str ⟨⟨[44]⟩⟩ (t0 + 3)], []⟩) R' s) →
      codeAny (model PySem.Challenge.pw_pf0369_01 (vf w b1)) ⟨none, dp, fr, gu, un⟩ (.call (.ref 231) ⟨[.str ⟨⟨joinC 44 (ps.map ptT)⟩⟩ t, .int 32 tw], []⟩) R ⟨h, #[], d, t0, os⟩ := by
    intro vs qs dt hvs hqs hsplit
    refine enter (V := wholeV _ dp un fr gu 0 h R d os) (T := .nil) (m := 0) hA (by show 600 < 1000; decide) (start0 K) ?_
    refine seg hA (by show 0 ≤ 0; decide) 31 2422583229119418075447296 (by refine bk b1 ?_ ?_ <;> kernel_rfl) (by refine bk b1 ?_ ?_ <;> kernel_rfl) ?_
    refine Go.callAlloc (.call (.builtin "str.split") ⟨[.str ⟨⟨joinC 44 (ps.map ptT)⟩⟩ t, .str ⟨⟨[44]⟩⟩ (t0 + 3)], []⟩) (fun _ => lst vs 0) dt (by refine bk b1 ?_ ?_ <;> kernel_rfl) rfl (by show 0 ≤ 0; decide) (by refine bk b1 ?_ ?_ <;> kernel_rfl) (fun h3 R3 D3 post => hsplit _ _ _ (by refine bk b1 ?_ ?_ <;> kernel_rfl) post) ?_
    refine seg hA (by show 0 ≤ 0; decide) 11 537658883 (by refine bk b1 ?_ ?_ <;> kernel_rfl) (by refine bk b1 ?_ ?_ <;> kernel_rfl) ?_
    refine Go.call (cR (h.objs.size + 3) h.objs.size) none (by refine bk b1 ?_ ?_ <;> kernel_rfl) rfl fun h1 D => ?_
    have o0 := D.own 0 h.objs.size (rdF (vf w b1).params (h.objs.size + 1) t0 (.str ⟨⟨joinC 44 (ps.map ptT)⟩⟩ t) (t0 + 1) tw (t0 + 2) [] 3) (by refine bk b1 ?_ ?_ <;> kernel_rfl)
    have o1 := D.own 1 (h.objs.size + 1) (lst [] 0) (by refine bk b1 ?_ ?_ <;> kernel_rfl)
    have o2 := D.own 2 (h.objs.size + 2) (lst vs 0) (by refine bk b1 ?_ ?_ <;> kernel_rfl)
    have o3 := D.own 3 (h.objs.size + 3) (litr (h.objs.size + 2) (0 : Nat) none ⟨[]⟩) (by refine bk b1 ?_ ?_ <;> kernel_rfl)
    have f0 := D.off 0 h.objs.size (rdF (vf w b1).params (h.objs.size + 1) t0 (.str ⟨⟨joinC 44 (ps.map ptT)⟩⟩ t) (t0 + 1) tw (t0 + 2) [] 3) (by refine bk b1 ?_ ?_ <;> kernel_rfl)
    have f1 := D.off 1 (h.objs.size + 1) (lst [] 0) (by refine bk b1 ?_ ?_ <;> kernel_rfl)
    have f2 := D.off 2 (h.objs.size + 2) (lst vs 0) (by refine bk b1 ?_ ?_ <;> kernel_rfl)
    have f3 := D.off 3 (h.objs.size + 3) (litr (h.objs.size + 2) (0 : Nat) none ⟨[]⟩) (by refine bk b1 ?_ ?_ <;> kernel_rfl)
    have n1 : h.get? (h.objs.size + 1) = none := D.new 1 (h.objs.size + 1) (lst [] 0) (by refine bk b1 ?_ ?_ <;> kernel_rfl) (Nat.zero_le _)
    refine rd_loop w b1 ps hok _ h1 _ d os (h.objs.size + 3) (h.objs.size + 2) (h.objs.size + 1) 0 h.objs.size 0 [] vs _ t0 (.str ⟨⟨joinC 44 (ps.map ptT)⟩⟩ t) (t0 + 1) tw (t0 + 2) [] 3 qs (by refine bk b1 ?_ ?_ <;> kernel_rfl) (depth_le (b := dp + 1) (by refine bk b1 ?_ ?_ <;> kernel_rfl) (by omega)) D.known ?_ ?_ (.inl ⟨rfl, rfl⟩) hvs hqs (by simp only [List.length_nil]; omega) ?_
    · intro q hq
      simp only [rdL, List.mem_cons, List.not_mem_nil, or_false] at hq
      rcases hq with rfl | rfl | rfl | rfl
      · exact ⟨o3, f3⟩
      · exact ⟨o1, f1⟩
      · exact ⟨o0, f0⟩
      · exact ⟨o2, f2⟩
    · simp
    · intro h2 t2 bs n' m2 nn2 F hf hm2 hfr hb hnd hmap
      rw [List.nil_append] at hf
      have D2 := D.stepN (T' := LT.of 0 [(h.objs.size, rdF (vf w b1).params (h.objs.size + 1) t0 (.str ⟨⟨joinC 44 (ps.map ptT)⟩⟩ t) (t0 + 1) tw (t0 + 2) m2 nn2), (h.objs.size + 1, lst (bdRefs bs) n')] .nil) F
        (fun i a o e => by
          rcases pairT e with ⟨rfl, rfl, rfl⟩ | ⟨rfl, rfl, rfl⟩
          · exact ⟨hfr, rdF (vf w b1).params (h.objs.size + 1) t0 (.str ⟨⟨joinC 44 (ps.map ptT)⟩⟩ t) (t0 + 1) tw (t0 + 2) [] 3, (by refine bk b1 ?_ ?_ <;> kernel_rfl)⟩
          · exact ⟨hf, lst [] 0, (by refine bk b1 ?_ ?_ <;> kernel_rfl)⟩)
        (fun a ha => by
          simp only [List.mem_cons, List.not_mem_nil, or_false] at ha
          rcases ha with rfl | rfl | rfl
          · exact ⟨3, litr (h.objs.size + 2) (0 : Nat) none ⟨[]⟩, (by refine bk b1 ?_ ?_ <;> kernel_rfl), .inr (Nat.zero_le _)⟩
          · exact ⟨1, lst [] 0, (by refine bk b1 ?_ ?_ <;> kernel_rfl), .inr (Nat.zero_le _)⟩
          · exact ⟨0, rdF (vf w b1).params (h.objs.size + 1) t0 (.str ⟨⟨joinC 44 (ps.map ptT)⟩⟩ t) (t0 + 1) tw (t0 + 2) [] 3, (by refine bk b1 ?_ ?_ <;> kernel_rfl), .inr (Nat.zero_le _)⟩)
      refine Go.rebase 2 4 D2 (by kernel_rfl) ?_
      have fin : ∀ h' t', Aft h h' [] → h'.get? (h.objs.size + 1) = some (lst (bdRefs bs) n') → (∀ b ∈ bs, h'.get? b.a = some b.obj) → R (.ok (.ret (.ref (h.objs.size + 1)))) ⟨h', #[], d, t', os⟩ := by
        intro h' t' Fa hba hbs
        refine post h' t' (h.objs.size + 1) n' bs Fa ?_ ?_ hmap
        · intro p hp
          rcases List.mem_cons.mp hp with rfl | hp
          · exact ⟨hba, f1, n1⟩
          · obtain ⟨b, hb', rfl⟩ := bdObjs_mem bs p hp
            obtain ⟨x1, x2, x3⟩ := hb b hb'
            refine ⟨hbs b hb', x2, ?_⟩
            cases q : h.get? b.a with
            | none => rfl
            | some o => rw [D.keep _ _ q (by show b.a ∉ []; simp)] at x3; cases x3
        · rw [List.map_cons, List.nodup_cons, bdObjs_map]
          refine ⟨fun hm => ?_, hnd⟩
          obtain ⟨b, hb', e⟩ := List.mem_map.mp hm
          have := (hb b hb').2.2
          rw [e, o1] at this
          cases this
      rcases hm2 with ⟨rfl, rfl⟩ | ⟨q3, v3, q4, v4, q5, v5, q6, v6, rfl, rfl⟩
      all_goals
        refine seg hA (by show 0 ≤ 2; decide) 3 1 (by refine bk b1 ?_ ?_ <;> kernel_rfl) (by refine bk b1 ?_ ?_ <;> kernel_rfl) ?_
        refine Go.done (.ret (.ref (h.objs.size + 1))) (by refine bk b1 ?_ ?_ <;> kernel_rfl) (by refine bk b1 ?_ ?_ <;> kernel_rfl) fun h' D' => ?_
        exact fin h' _ (D2.aft.trans D'.aft) (D'.own 1 (h.objs.size + 1) (lst (bdRefs bs) n') (by refine bk b1 ?_ ?_ <;> kernel_rfl)) (fun b hb' => D'.keep _ _ (hb b hb').1 (by show b.a ∉ []; simp))
  rcases ps with _ | ⟨p, ps⟩
  · exact absurd rfl hne
  rcases ps with _ | ⟨p2, ps⟩
  · obtain ⟨e1, e2, e3⟩ := hT (ptT p) (by simp)
    exact step [.str ⟨⟨ptT p⟩⟩ t] [(ptT p, t)] 0 rfl rfl fun s A' R' hs post => c_split1 (by decide) e2 e1 post
  · refine step (strL (strF (t0 + 4) ((p :: p2 :: ps).map ptT))) (strF (t0 + 4) ((p :: p2 :: ps).map ptT)) (p :: p2 :: ps).length rfl (strL_strF _ _) fun s A' R' hs post => ?_
    refine c_split (by decide) (by simp) (by simp only [List.length_map, List.length_cons] at hl3 ⊢; omega) ?_ (fun x hx => (hT x hx).1) ?_
    · have z := joinC_len (c := 44) 21 ((p :: p2 :: ps).map ptT) fun x hx => (hT x hx).2.2
      rw [List.length_map] at z
      have := Nat.mul_le_mul_right (21 + 1) hl3
      omega
    · rw [hs] at post
      rw [List.length_map, hs]
      exact post
end Mine
end
section
namespace Mine
theorem lt9 {P : Nat → Prop} (h0 : P 0) (h1 : P 1) (h2 : P 2) (h3 : P 3) (h4 : P 4) (h5 : P 5) (h6 : P 6) (h7 : P 7) (h8 : P 8) : ∀ i, i < 9 → P i
  | 0, _ => h0 | 1, _ => h1 | 2, _ => h2 | 3, _ => h3 | 4, _ => h4 | 5, _ => h5 | 6, _ => h6 | 7, _ => h7 | 8, _ => h8
  | n + 9, h => absurd h (by omega)
theorem numV_eq : ∀ i : Nat, i < 9 → numV i = (i : Int) - 2 := by
  refine lt9 ?_ ?_ ?_ ?_ ?_ ?_ ?_ ?_ ?_ <;> decide
theorem itext_num : ∀ i : Nat, i < 9 → itext ((i : Int) - 2) = ⟨⟨numT i⟩⟩ := by
  refine lt9 ?_ ?_ ?_ ?_ ?_ ?_ ?_ ?_ ?_ <;> decide +kernel
theorem str_app (x y : List Nat) : (⟨⟨x⟩⟩ : Str) ++ (⟨⟨y⟩⟩ : Str) = ⟨⟨x ++ y⟩⟩ := by
  show Str.mk ((⟨x⟩ : Array Nat) ++ (⟨y⟩ : Array Nat)) = _
  congr 1
  simp
theorem Go.repr {V : Wb} {S : St} (k : Int) (x : List Nat) (hx : itext k = ⟨⟨x⟩⟩) (hk : k.natAbs < 1000) (e : callIs S.t = some (.call (.builtin "int.__repr__") ⟨[.int k (tokOf (argOf S.t 0))], []⟩, none))
    (next : Go V (S.ret (.ok (.ret (.str ⟨⟨x⟩⟩ S.tk))) 1)) : Go V S :=
  Go.callP _ none e rfl (fun tk => .ok (.ret (.str ⟨⟨x⟩⟩ tk))) 1 (fun _ _ _ post => c_repr hk (hx ▸ post)) next
theorem Go.add {V : Wb} {S : St} (x y z : List Nat) (hz : x ++ y = z) (hx : 1 ≤ x.length) (hy : 1 ≤ y.length) (hl : x.length + y.length ≤ 1000) (e : callIs S.t = some (.call (.builtin "str.__add__") ⟨[.str ⟨⟨x⟩⟩ (tokOf (argOf S.t 0)), .str ⟨⟨y⟩⟩ (tokOf (argOf S.t 1))], []⟩, none))
    (next : Go V (S.ret (.ok (.ret (.str ⟨⟨z⟩⟩ S.tk))) 1)) : Go V S := by
  subst hz
  refine Go.callP _ none e rfl (fun tk => .ok (.ret (.str ⟨⟨x ++ y⟩⟩ tk))) 1 (fun _ _ _ post => c_add ?_ ?_ hl ?_) next
  · rw [beq_eq_false_iff_ne]; exact Nat.one_le_iff_ne_zero.mp hx
  · rw [beq_eq_false_iff_ne]; exact Nat.one_le_iff_ne_zero.mp hy
  · rw [str_app]; exact post
section
variable {prog : Program} {w : World} {A : Around} {s : Shared} {R : Result → Shared → Prop}
theorem c_add0 {y : Str} {t u : Tok} (h : R (.ok (.ret (.str y u))) s) :
    codeAny (model prog w) A (.call (.builtin "str.__add__") ⟨[.str ⟨⟨[]⟩⟩ t, .str y u], []⟩) R s := by
  refine code_meets F.slot_str_add (typeIs_str s _ t) F.entry_str_add (F.args_str_add_2 _ _) (gives_str_add ⟨⟨[]⟩⟩ y t u).meets ?_
  show Made.post _ _ _
  rw [if_pos (by rfl)]
  exact h
end
section
variable {prog : Program} {w : World} {A : Around} {s : Shared} {R : Result → Shared → Prop}
theorem c_join1 {a : Addr} {t u : Tok} {n : Nat} {x : List Nat} (c : Nat) (ha : s.heap.get? a = some (lst [.str ⟨⟨x⟩⟩ u] n)) (hb : x.length ≤ 1000) (h : R (.ok (.ret (.str ⟨⟨x⟩⟩ u))) s) :
    codeAny (model prog w) A (.call (.builtin "str.join") ⟨[.str ⟨⟨[c]⟩⟩ t, .ref a], []⟩) R s := by
  refine code_meets F.slot_str_join (typeIs_str s _ t) F.entry_str_join (F.args_str_join_2 _ _) (meets_str_join_list ⟨⟨[c]⟩⟩ t a [((⟨⟨x⟩⟩ : Str), u)] ?_) ⟨lst_is ha, h⟩
  unfold Builtin.Str.tooLong
  rw [decide_eq_false_iff_not, Nat.not_lt, sizeLine_eq]
  show 0 + x.length + 1 ≤ _
  exact Nat.le_trans (show 0 + x.length + 1 ≤ 1001 by omega) (by decide)
end
theorem LT.key {T : LT} {l : List (Nat × Obj)} (hl : T.lt l.length = true) (hr : T.rows l.length 0 = l.map some) (i a : Nat) (o : Obj) (e : T.get i = some (a, o)) : l[i]? = some (a, o) := by
  have hi := LT.lt_of _ _ hl _ _ _ e
  have z := rows_all T l.length 0 l hr rfl i hi
  rw [Nat.zero_add, e] at z
  exact z.symm
/-- the ledger's addresses differ -/
theorem Rep.nd {V : Ws} {h₀ h : Heap} {M : List Nat} {T : LT} {nx : Nat} (D : Rep V h₀ M T nx h) (l : List (Nat × Nat × Obj)) (hg : ∀ x ∈ l, T.get x.1 = some (x.2.1, x.2.2)) (hn : (l.map (·.1)).Nodup) : (l.map (·.2.1)).Nodup := by
  induction l with
  | nil => exact List.nodup_nil
  | cons x l ih =>
    rw [List.map_cons, List.nodup_cons] at hn ⊢
    refine ⟨fun hm => ?_, ih (fun y hy => hg y (List.mem_cons_of_mem _ hy)) hn.2⟩
    obtain ⟨y, hy, e⟩ := List.mem_map.mp hm
    refine hn.1 (List.mem_map.mpr ⟨y, hy, ?_⟩)
    exact (D.one _ _ _ _ _ (hg x (by simp)) (e ▸ hg y (List.mem_cons_of_mem _ hy))).symm
theorem Go.add0 {V : Wb} {S : St} (y : List Nat) (e : callIs S.t = some (.call (.builtin "str.__add__") ⟨[.str ⟨⟨[]⟩⟩ (tokOf (argOf S.t 0)), .str ⟨⟨y⟩⟩ (tokOf (argOf S.t 1))], []⟩, none))
    (next : Go V (S.ret (.ok (.ret (.str ⟨⟨y⟩⟩ (tokOf (argOf S.t 1))))) 0)) : Go V S :=
  Go.callP _ none e rfl (fun _ => .ok (.ret (.str ⟨⟨y⟩⟩ (tokOf (argOf S.t 1))))) 0 (fun _ _ _ post => c_add0 post) next
theorem Go.range {V : Wb} {S : St} (i it j m : Nat) (e : callIs S.t = some (.call (.builtin "range_iterator.__next__") ⟨[.ref it], []⟩, none)) (hi : S.T.get i = some (it, rngI j (m + 1))) (hw : i < V.g1 ∨ V.g2 ≤ i)
    (next : Go V (S.retP (.ok (.ret (.int (.ofNat j) S.tk))) i it (rngI (j + 1) m) 1)) : Go V S := by
  refine Go.call _ none e rfl fun h1 D => ?_
  refine c_range (D.own i it _ hi) fun h2 h3 h4 F => ?_
  exact Go.from S.m next ((D.step1 hi F h3 hw).at (h4.trans D.size))
theorem Go.draw {V : Wb} {S : St} (i j fa ca : Nat) (turn : Int) (tu n1 n2 many : Nat) (vs : List Value) (b : Nat) (hprog : V.prog = PySem.Challenge.pw_pf0369_01) (hkt : V.kt = kq V.w.params)
    (e : callIs S.t = some (.call (.ref 326) ⟨[.ref fa, .int (.ofNat (many + 1)) (tokOf (argOf S.t 1))], []⟩, none)) (hi : S.T.get i = some (fa, lst [.ref ca, .int turn tu] n1)) (hj : S.T.get j = some (ca, lst vs n2)) (hij : i ≠ j) (hw : i < V.g1 ∨ V.g2 ≤ i)
    (hv : Cells vs) (hl : vs.length ≤ 63) (h0 : 0 ≤ turn) (h1 : turn ≤ 1000) (hA : ((((arOf V.A₀ S.κ).under S.c).mark none).handled, (((arOf V.A₀ S.κ).under S.c).mark none).depth) = (none, b)) (hb : b ≤ 590)
    (next : ∀ r tr tu' nx' t', r < many + 1 → Go V (S.retQ (.ok (.ret (.int (.ofNat r) tr))) i fa (lst [.ref ca, .int (turn + 1) tu'] n1) nx' t')) : Go V S := by
  refine Go.call _ none e rfl fun h' D => ?_
  have K : Known V.w.params h' := fun a o z => D.known a o (hkt ▸ z)
  have kf := D.off i _ _ hi
  have kc := D.off j _ _ hj
  rw [hkt] at kf kc
  have H := next_spec V.w _ h' fa ca turn many tu (tokOf (argOf S.t 1)) n1 n2 S.tk vs V.d V.os (fun r s' => Means V S.c S.κ (callK S.t r) s') (congrArg (·.1) hA) (by rw [show Around.depth _ = b from congrArg (·.2) hA]; omega) K (D.own i _ _ hi) (D.own j _ _ hj)
    (fun q => hij (D.one i j ca _ _ (q ▸ hi) hj)) kf kc hv hl h0 h1 (fun r tr tu' h2 t2 hr hf F => Go.from S.m (next r tr tu' _ t2 hr) (D.step1 hi F hf hw))
  rw [← hprog] at H
  exact H
theorem Go.appendS {V : Wb} {S : St} (i l : Nat) (vs : List Value) (n : Nat) (x : List Nat) (e : callIs S.t = some (.call (.builtin "list.append") ⟨[.ref l, .str ⟨⟨x⟩⟩ (tokOf (argOf S.t 1))], []⟩, none)) (hi : S.T.get i = some (l, lst vs n)) (hsz : vs.length ≤ 1000) (hw : i < V.g1 ∨ V.g2 ≤ i)
    (next : ∀ tok, Go V (S.retP (.ok (.ret .none)) i l (lst (vs ++ [.str ⟨⟨x⟩⟩ tok]) (n + 1)) 0)) : Go V S :=
  Go.append i l vs n _ e hi hsz hw (next _)
end Mine
end
section
namespace Mine
noncomputable def sFeed : Str := ⟨⟨[102, 101, 101, 100]⟩⟩
noncomputable def sSize : Str := ⟨⟨[115, 105, 122, 101]⟩⟩
noncomputable def sParts : Str := ⟨⟨[112, 97, 114, 116, 115]⟩⟩
noncomputable def sWide : Str := ⟨⟨[119, 105, 100, 101]⟩⟩
noncomputable def sShort : Str := ⟨⟨[105, 115, 95, 115, 104, 111, 114, 116]⟩⟩
noncomputable def PtS (p : Pt) : Prop := PtOk p ∧ 1 ≤ ptH p - ptL p + 1 ∧ ptH p - ptL p + 1 ≤ 5
noncomputable def prEnv (fr : Nat) : Env := ⟨fdS (st 38), fr, 3, [], ⟨⟨[95, 108, 97, 119, 95, 112, 114, 111, 116, 111, 116, 121, 112, 101, 46, 60, 108, 111, 99, 97, 108, 115, 62, 46]⟩⟩, some 340, .ref 339, some fr, 0⟩
noncomputable def cP (it fr : Nat) : Code := forC (fdB (st 38)) 1 (.ref it) (prEnv fr)
noncomputable def prF (P : Params) (fa k0 k1 : Nat) (v1 : Value) (k2 po : Nat) (more : List DictEntry) (n : Nat) : Obj :=
  ⟨.type "frame", none, .dict ⟨⟨kh P sFeed, .str sFeed k0, .ref fa⟩ :: ⟨kh P sSize, .str sSize k1, v1⟩ :: ⟨kh P sParts, .str sParts k2, .ref po⟩ :: more⟩ n, ⟨[]⟩⟩
noncomputable def prM (P : Params) (k3 : Nat) (v3 : Value) (k4 : Nat) (v4 : Value) (k5 : Nat) (v5 : Value) (k6 : Nat) (v6 : Value) : List DictEntry :=
  [⟨kh P sTurn, .str sTurn k3, v3⟩, ⟨kh P sLow, .str sLow k4, v4⟩, ⟨kh P sWide, .str sWide k5, v5⟩, ⟨kh P sShort, .str sShort k6, v6⟩]
noncomputable def PrMore (P : Params) (more : List DictEntry) (n : Nat) : Prop := (more = [] ∧ n = 3) ∨ ∃ k3 v3 k4 v4 k5 v5 k6 v6, more = prM P k3 v3 k4 v4 k5 v5 k6 v6 ∧ n = 7
noncomputable def prMOf (P : Params) (o : Obj) : List DictEntry := prM P (kTok o 3) (vAt o 3) (kTok o 4) (vAt o 4) (kTok o 5) (vAt o 5) (kTok o 6) (vAt o 6)
noncomputable def prL (it j m fr : Nat) (ob : Obj) (po : Nat) (pv : List Value) (n fa ca : Nat) (turn : Int) (tu n1 : Nat) (vs : List Value) (n2 : Nat) : List (Nat × Obj) := [(it, rngI j m), (fr, ob), (po, lst pv n), (fa, lst [.ref ca, .int turn tu] n1), (ca, lst vs n2)]
noncomputable def prV (w : World) (dp un : Nat) (fr : Option (List Env)) (gu : Option (List Code)) (h : Heap) (M : List Nat) (R : Result → Shared → Prop) (d : Drawn) (os : OsState) : Wb :=
  ⟨⟨PySem.Challenge.pw_pf0369_01, w, ⟨none, dp, fr, gu, un⟩, 600, 4, 5, kq w.params, []⟩, h, M, R, d, os⟩
theorem Go.endP {V : Wb} {S : St} (g : LT → LT) (c' : Code) (hκ : S.κ = []) (e : S.t = .pure (.again c')) (hl : (g S.T).lt 5 = true) (hm : (g S.T).rows 5 0 = [0, 1, 2, 3, 4].map S.T.get) (hn : [0, 1, 2, 3, 4].Nodup) (hs : sameSide V.toWs [0, 1, 2, 3, 4] 0 = true) (hq : c'.quiet = true)
    (h : ∀ h', Rep V.toWs V.h₀ V.M (g S.T) S.nx h' → codeAny (model V.prog V.w) V.A₀ c' V.R₀ ⟨h', #[], V.d, S.tk, V.os⟩) : Go V S :=
  Go.again c' hκ e hq fun h' D => h h' (D.cut [0, 1, 2, 3, 4] (g S.T) hl hm hn hs)
section
variable (w : World) (b1 : Bool) (dp un : Nat) (f : Option (List Env)) (gu : Option (List Code)) (h : Heap) (R : Result → Shared → Prop) (d : Drawn) (os : OsState) (it j m fr k0 k1 : Nat) (sz : Int) (tz k2 po : Nat) (pv : List Value) (n fa ca : Nat) (turn : Int) (tu n1 : Nat) (vs : List Value) (n2 t0 : Nat)
theorem pr_turn (hA' : dp ≤ 580) (more : List DictEntry) (nn : Nat) (hm : PrMore (vf w b1).params more nn) (hf : pv.length ≤ 100) (hv : Cells vs) (hl : vs.length ≤ 63) (h0 : 0 ≤ turn) (h1 : turn ≤ 900)
    (next : ∀ (p : Pt) (tok : Nat) (sz' turn' : Int) (tu' tz' : Nat) more' h' t', PtS p → sz' = sz * (ptH p - ptL p + 1) → turn ≤ turn' → turn' ≤ turn + 3 → PrMore (vf w b1).params more' 7 →
      Rep (prV (vf w b1) dp un f gu h [it, fr, po, fa] R d os).toWs h [it, fr, po, fa] (LT.of 0 (prL it (j + 1) m fr (prF (vf w b1).params fa k0 k1 (.int sz' tz') k2 po more' 7) po (pv ++ [.str ⟨⟨ptT p⟩⟩ tok]) (n + 1) fa ca turn' tu' n1 vs n2) .nil) h'.objs.size h' → codeAny (model PySem.Challenge.pw_pf0369_01 (vf w b1)) ⟨none, dp, f, gu, un⟩ (cP it fr) R ⟨h', #[], d, t', os⟩) :
    Go (prV (vf w b1) dp un f gu h [it, fr, po, fa] R d os) ⟨cP it fr, [], dz (cP it fr), LT.of 0 (prL it j (m + 1) fr (prF (vf w b1).params fa k0 k1 (.int sz tz) k2 po more nn) po pv n fa ca turn tu n1 vs n2) .nil, 5, h.objs.size, t0⟩ := by
  have hA : dp ≤ 600 := Nat.le_trans hA' (by decide)
  have hB : ∀ r2 : Nat, r2 < 5 → Builtin.Int.intBits (1 + Int.ofNat r2) ≤ 64 := fun r2 hr => bits_le (by show (0 : Int) ≤ 1 + (r2 : Int); omega) (by show 1 + (r2 : Int) < 2 ^ 40; omega)
  have num : ∀ i : Nat, i < 9 → 1 ≤ (numT i).length ∧ (numT i).length ≤ 10 := fun i hi => (numT_no i (by omega)).2.2
  have itx : ∀ (i : Nat) (k : Int), i < 9 → k = (i : Int) - 2 → itext k = ⟨⟨numT i⟩⟩ ∧ k.natAbs < 1000 := fun i k hi e => e ▸ ⟨itext_num i hi, by omega⟩
  rcases hm with ⟨rfl, rfl⟩ | ⟨q3, v3, q4, v4, q5, v5, q6, v6, rfl, rfl⟩
  all_goals
    refine seg hA (by show 4 ≤ 5; decide) 2 1 (by refine bk b1 ?_ ?_ <;> kernel_rfl) (by refine bk b1 ?_ ?_ <;> kernel_rfl) ?_
    refine Go.range 0 it j m (by refine bk b1 ?_ ?_ <;> kernel_rfl) (by refine bk b1 ?_ ?_ <;> kernel_rfl) (.inl (by show 0 < 4; decide)) ?_
    refine seg hA (by show 4 ≤ 5; decide) 15 268436482 (by refine bk b1 ?_ ?_ <;> kernel_rfl) (by refine bk b1 ?_ ?_ <;> kernel_rfl) ?_
    refine Go.draw 3 4 fa ca (turn) tu n1 n2 4 vs dp rfl rfl (by refine bk b1 ?_ ?_ <;> kernel_rfl) (by refine bk b1 ?_ ?_ <;> kernel_rfl) (by refine bk b1 ?_ ?_ <;> kernel_rfl) (by decide) (.inl (by show 3 < 4; decide)) hv hl (by omega) (by omega) (by refine bk b1 ?_ ?_ <;> kernel_rfl) (by omega) fun r1 a1 u1 nxr1 tr1 hr1 => ?_
    refine seg hA (by show 4 ≤ 5; decide) 23 268436482 (by refine bk b1 ?_ ?_ <;> kernel_rfl) (by refine bk b1 ?_ ?_ <;> kernel_rfl) ?_
    refine Go.draw 3 4 fa ca (turn + 1) u1 n1 n2 4 vs dp rfl rfl (by refine bk b1 ?_ ?_ <;> kernel_rfl) (by refine bk b1 ?_ ?_ <;> kernel_rfl) (by refine bk b1 ?_ ?_ <;> kernel_rfl) (by decide) (.inl (by show 3 < 4; decide)) hv hl (by omega) (by omega) (by refine bk b1 ?_ ?_ <;> kernel_rfl) (by omega) fun r2 a2 u2 nxr2 tr2 hr2 => ?_
    refine seg hA (by show 4 ≤ 5; decide) 19 525314 (by refine bk b1 ?_ ?_ <;> kernel_rfl) (by refine bk b1 ?_ ?_ <;> kernel_rfl) ?_
    have hr1 : r1 < 5 := hr1
    have hr2 : r2 < 5 := hr2
    by_cases h3 : r1 = 3
    · subst h3
      refine Go.ieq (.ofNat 3 - 2) 1 true (by refine bk b1 ?_ ?_ <;> kernel_rfl) (by decide) ?_
      refine seg hA (by show 4 ≤ 5; decide) 8 1024 (by refine bk b1 ?_ ?_ <;> kernel_rfl) (by refine bk b1 ?_ ?_ <;> kernel_rfl) ?_
      refine Go.draw 3 4 fa ca (turn + 1 + 1) u2 n1 n2 1 vs dp rfl rfl (by refine bk b1 ?_ ?_ <;> kernel_rfl) (by refine bk b1 ?_ ?_ <;> kernel_rfl) (by refine bk b1 ?_ ?_ <;> kernel_rfl) (by decide) (.inl (by show 3 < 4; decide)) hv hl (by omega) (by omega) (by refine bk b1 ?_ ?_ <;> kernel_rfl) (by omega) fun r3 a3 u3 nxr3 tr3 hr3 => ?_
      have hr3 : r3 < 2 := hr3
      refine seg hA (by show 4 ≤ 5; decide) 4 0 (by refine bk b1 ?_ ?_ <;> kernel_rfl) (by refine bk b1 ?_ ?_ <;> kernel_rfl) ?_
      by_cases h4 : r3 = 0
      · subst h4
        refine Go.ieq (.ofNat 0) 0 true (by refine bk b1 ?_ ?_ <;> kernel_rfl) (by decide) ?_
        refine seg hA (by show 4 ≤ 5; decide) 46 1270126480325301055075417326594 (by refine bk b1 ?_ ?_ <;> kernel_rfl) (by refine bk b1 ?_ ?_ <;> kernel_rfl) ?_
        have q2 := itx (3 + r2) (Int.ofNat 3 - 2 + (1 + Int.ofNat r2) - 1) (by omega) (by show ((3 : Nat) : Int) - 2 + (1 + (r2 : Int)) - 1 = ((3 + r2 : Nat) : Int) - 2; omega)
        refine Go.repr (Int.ofNat 3 - 2 + (1 + Int.ofNat r2) - 1) (numT (3 + r2)) q2.1 q2.2 (by refine bk b1 ?_ ?_ <;> kernel_rfl) ?_
        refine seg hA (by show 4 ≤ 5; decide) 9 0 (by refine bk b1 ?_ ?_ <;> kernel_rfl) (by refine bk b1 ?_ ?_ <;> kernel_rfl) ?_
        refine Go.add0 (numT (3 + r2)) (by refine bk b1 ?_ ?_ <;> kernel_rfl) ?_
        refine seg hA (by show 4 ≤ 5; decide) 1 0 (by refine bk b1 ?_ ?_ <;> kernel_rfl) (by refine bk b1 ?_ ?_ <;> kernel_rfl) ?_
        refine Go.appendS 2 po pv n (ptT (true, 3, (3 + r2))) (by refine bk b1 ?_ ?_ <;> kernel_rfl) (by refine bk b1 ?_ ?_ <;> kernel_rfl) (by omega) (.inl (by show 2 < 4; decide)) fun tok => ?_
        refine seg hA (by show 4 ≤ 5; decide) 7 1026 (by refine bk b1 ?_ ?_ <;> kernel_rfl) (by refine bk b1 ?_ ?_ <;> kernel_rfl) ?_
        refine Go.mul sz (1 + .ofNat r2) (by refine bk b1 ?_ ?_ <;> kernel_rfl) (hB r2 hr2) ?_
        refine seg hA (by show 4 ≤ 5; decide) 7 1026 (by refine bk b1 ?_ ?_ <;> kernel_rfl) (by refine bk b1 ?_ ?_ <;> kernel_rfl) ?_
        refine Go.endP (fun T => LT.of 0 (prL it (j + 1) m fr (prF (vf w b1).params fa k0 k1 (.int (sz * (1 + .ofNat r2)) (tokOf (vAt (objAt T 1) 1))) k2 po (prMOf (vf w b1).params (objAt T 1)) 7) po (pv ++ [.str ⟨⟨ptT (true, 3, (3 + r2))⟩⟩ tok]) (n + 1) fa ca (turn + 1 + 1 + 1) u3 n1 vs n2) .nil) (cP it fr) (by refine bk b1 ?_ ?_ <;> kernel_rfl) (by refine bk b1 ?_ ?_ <;> kernel_rfl) (by refine bk b1 ?_ ?_ <;> kernel_rfl) (by refine bk b1 ?_ ?_ <;> kernel_rfl) (by decide) (by refine bk b1 ?_ ?_ <;> kernel_rfl) (by refine bk b1 ?_ ?_ <;> kernel_rfl) fun h' D => ?_
        have e1 := numV_eq 3 (by omega)
        have e2 := numV_eq (3 + r2) (by omega)
        exact next (true, 3, (3 + r2)) _ _ _ _ _ _ h' _ ⟨⟨by show 3 < 11; omega, by show (3 + r2) < 11; omega, by show 1 ≤ numV (3 + r2); omega⟩, by show 1 ≤ numV (3 + r2) - 1 + 1; omega, by show numV (3 + r2) - 1 + 1 ≤ 5; omega⟩ (by show sz * (1 + (r2 : Int)) = sz * (numV (3 + r2) - 1 + 1); congr 1; omega) (by omega) (by omega) (.inr ⟨_, _, _, _, _, _, _, _, rfl, rfl⟩) (D.at D.size.symm)
      · obtain rfl : r3 = 1 := by omega
        refine Go.ieq (.ofNat 1) 0 false (by refine bk b1 ?_ ?_ <;> kernel_rfl) (by decide) ?_
        have q1 := itx 3 (Int.ofNat 3 - 2) (by omega) rfl
        have q2 := itx (3 + r2) (Int.ofNat 3 - 2 + (1 + Int.ofNat r2) - 1) (by omega) (by show ((3 : Nat) : Int) - 2 + (1 + (r2 : Int)) - 1 = ((3 + r2 : Nat) : Int) - 2; omega)
        have n1' := num 3 (by omega)
        have n2' := num (3 + r2) (by omega)
        refine seg hA (by show 4 ≤ 5; decide) 32 2475880097071653578714121218 (by refine bk b1 ?_ ?_ <;> kernel_rfl) (by refine bk b1 ?_ ?_ <;> kernel_rfl) ?_
        refine Go.repr (Int.ofNat 3 - 2) (numT 3) q1.1 q1.2 (by refine bk b1 ?_ ?_ <;> kernel_rfl) ?_
        refine seg hA (by show 4 ≤ 5; decide) 10 0 (by refine bk b1 ?_ ?_ <;> kernel_rfl) (by refine bk b1 ?_ ?_ <;> kernel_rfl) ?_
        refine Go.add (numT 3) [58] (numT 3 ++ [58]) rfl n1'.1 (by decide) (by simp only [List.length_cons, List.length_nil]; omega) (by refine bk b1 ?_ ?_ <;> kernel_rfl) ?_
        refine seg hA (by show 4 ≤ 5; decide) 26 268959744 (by refine bk b1 ?_ ?_ <;> kernel_rfl) (by refine bk b1 ?_ ?_ <;> kernel_rfl) ?_
        refine Go.repr (Int.ofNat 3 - 2 + (1 + Int.ofNat r2) - 1) (numT (3 + r2)) q2.1 q2.2 (by refine bk b1 ?_ ?_ <;> kernel_rfl) ?_
        refine seg hA (by show 4 ≤ 5; decide) 9 0 (by refine bk b1 ?_ ?_ <;> kernel_rfl) (by refine bk b1 ?_ ?_ <;> kernel_rfl) ?_
        refine Go.add (numT 3 ++ [58]) (numT (3 + r2)) (joinC 58 [numT 3, numT (3 + r2)]) (by simp [joinC]) (by simp) n2'.1 (by simp only [List.length_append, List.length_cons, List.length_nil]; omega) (by refine bk b1 ?_ ?_ <;> kernel_rfl) ?_
        refine seg hA (by show 4 ≤ 5; decide) 1 0 (by refine bk b1 ?_ ?_ <;> kernel_rfl) (by refine bk b1 ?_ ?_ <;> kernel_rfl) ?_
        refine Go.appendS 2 po pv n (ptT (false, 3, (3 + r2))) (by refine bk b1 ?_ ?_ <;> kernel_rfl) (by refine bk b1 ?_ ?_ <;> kernel_rfl) (by omega) (.inl (by show 2 < 4; decide)) fun tok => ?_
        refine seg hA (by show 4 ≤ 5; decide) 7 1026 (by refine bk b1 ?_ ?_ <;> kernel_rfl) (by refine bk b1 ?_ ?_ <;> kernel_rfl) ?_
        refine Go.mul sz (1 + .ofNat r2) (by refine bk b1 ?_ ?_ <;> kernel_rfl) (hB r2 hr2) ?_
        refine seg hA (by show 4 ≤ 5; decide) 7 1026 (by refine bk b1 ?_ ?_ <;> kernel_rfl) (by refine bk b1 ?_ ?_ <;> kernel_rfl) ?_
        refine Go.endP (fun T => LT.of 0 (prL it (j + 1) m fr (prF (vf w b1).params fa k0 k1 (.int (sz * (1 + .ofNat r2)) (tokOf (vAt (objAt T 1) 1))) k2 po (prMOf (vf w b1).params (objAt T 1)) 7) po (pv ++ [.str ⟨⟨ptT (false, 3, (3 + r2))⟩⟩ tok]) (n + 1) fa ca (turn + 1 + 1 + 1) u3 n1 vs n2) .nil) (cP it fr) (by refine bk b1 ?_ ?_ <;> kernel_rfl) (by refine bk b1 ?_ ?_ <;> kernel_rfl) (by refine bk b1 ?_ ?_ <;> kernel_rfl) (by refine bk b1 ?_ ?_ <;> kernel_rfl) (by decide) (by refine bk b1 ?_ ?_ <;> kernel_rfl) (by refine bk b1 ?_ ?_ <;> kernel_rfl) fun h' D => ?_
        have e1 := numV_eq 3 (by omega)
        have e2 := numV_eq (3 + r2) (by omega)
        exact next (false, 3, (3 + r2)) _ _ _ _ _ _ h' _ ⟨⟨by show 3 < 11; omega, by show (3 + r2) < 11; omega, by show numV 3 ≤ numV (3 + r2); omega⟩, by show 1 ≤ numV (3 + r2) - numV 3 + 1; omega, by show numV (3 + r2) - numV 3 + 1 ≤ 5; omega⟩ (by show sz * (1 + (r2 : Int)) = sz * (numV (3 + r2) - numV 3 + 1); congr 1; omega) (by omega) (by omega) (.inr ⟨_, _, _, _, _, _, _, _, rfl, rfl⟩) (D.at D.size.symm)
    · refine Go.ieq (.ofNat r1 - 2) 1 false (by refine bk b1 ?_ ?_ <;> kernel_rfl) (by rw [beq_eq_false_iff_ne]; show (r1 : Int) - 2 ≠ 1; omega) ?_
      have q1 := itx r1 (Int.ofNat r1 - 2) (by omega) rfl
      have q2 := itx (r1 + r2) (Int.ofNat r1 - 2 + (1 + Int.ofNat r2) - 1) (by omega) (by show ((r1 : Nat) : Int) - 2 + (1 + (r2 : Int)) - 1 = ((r1 + r2 : Nat) : Int) - 2; omega)
      have n1' := num r1 (by omega)
      have n2' := num (r1 + r2) (by omega)
      refine seg hA (by show 4 ≤ 5; decide) 33 2475880097071653578714121218 (by refine bk b1 ?_ ?_ <;> kernel_rfl) (by refine bk b1 ?_ ?_ <;> kernel_rfl) ?_
      refine Go.repr (Int.ofNat r1 - 2) (numT r1) q1.1 q1.2 (by refine bk b1 ?_ ?_ <;> kernel_rfl) ?_
      refine seg hA (by show 4 ≤ 5; decide) 10 0 (by refine bk b1 ?_ ?_ <;> kernel_rfl) (by refine bk b1 ?_ ?_ <;> kernel_rfl) ?_
      refine Go.add (numT r1) [58] (numT r1 ++ [58]) rfl n1'.1 (by decide) (by simp only [List.length_cons, List.length_nil]; omega) (by refine bk b1 ?_ ?_ <;> kernel_rfl) ?_
      refine seg hA (by show 4 ≤ 5; decide) 26 268959744 (by refine bk b1 ?_ ?_ <;> kernel_rfl) (by refine bk b1 ?_ ?_ <;> kernel_rfl) ?_
      refine Go.repr (Int.ofNat r1 - 2 + (1 + Int.ofNat r2) - 1) (numT (r1 + r2)) q2.1 q2.2 (by refine bk b1 ?_ ?_ <;> kernel_rfl) ?_
      refine seg hA (by show 4 ≤ 5; decide) 9 0 (by refine bk b1 ?_ ?_ <;> kernel_rfl) (by refine bk b1 ?_ ?_ <;> kernel_rfl) ?_
      refine Go.add (numT r1 ++ [58]) (numT (r1 + r2)) (joinC 58 [numT r1, numT (r1 + r2)]) (by simp [joinC]) (by simp) n2'.1 (by simp only [List.length_append, List.length_cons, List.length_nil]; omega) (by refine bk b1 ?_ ?_ <;> kernel_rfl) ?_
      refine seg hA (by show 4 ≤ 5; decide) 1 0 (by refine bk b1 ?_ ?_ <;> kernel_rfl) (by refine bk b1 ?_ ?_ <;> kernel_rfl) ?_
      refine Go.appendS 2 po pv n (ptT (false, r1, (r1 + r2))) (by refine bk b1 ?_ ?_ <;> kernel_rfl) (by refine bk b1 ?_ ?_ <;> kernel_rfl) (by omega) (.inl (by show 2 < 4; decide)) fun tok => ?_
      refine seg hA (by show 4 ≤ 5; decide) 7 1026 (by refine bk b1 ?_ ?_ <;> kernel_rfl) (by refine bk b1 ?_ ?_ <;> kernel_rfl) ?_
      refine Go.mul sz (1 + .ofNat r2) (by refine bk b1 ?_ ?_ <;> kernel_rfl) (hB r2 hr2) ?_
      refine seg hA (by show 4 ≤ 5; decide) 7 1026 (by refine bk b1 ?_ ?_ <;> kernel_rfl) (by refine bk b1 ?_ ?_ <;> kernel_rfl) ?_
      refine Go.endP (fun T => LT.of 0 (prL it (j + 1) m fr (prF (vf w b1).params fa k0 k1 (.int (sz * (1 + .ofNat r2)) (tokOf (vAt (objAt T 1) 1))) k2 po (prMOf (vf w b1).params (objAt T 1)) 7) po (pv ++ [.str ⟨⟨ptT (false, r1, (r1 + r2))⟩⟩ tok]) (n + 1) fa ca (turn + 1 + 1) u2 n1 vs n2) .nil) (cP it fr) (by refine bk b1 ?_ ?_ <;> kernel_rfl) (by refine bk b1 ?_ ?_ <;> kernel_rfl) (by refine bk b1 ?_ ?_ <;> kernel_rfl) (by refine bk b1 ?_ ?_ <;> kernel_rfl) (by decide) (by refine bk b1 ?_ ?_ <;> kernel_rfl) (by refine bk b1 ?_ ?_ <;> kernel_rfl) fun h' D => ?_
      have e1 := numV_eq r1 (by omega)
      have e2 := numV_eq (r1 + r2) (by omega)
      exact next (false, r1, (r1 + r2)) _ _ _ _ _ _ h' _ ⟨⟨by show r1 < 11; omega, by show (r1 + r2) < 11; omega, by show numV r1 ≤ numV (r1 + r2); omega⟩, by show 1 ≤ numV (r1 + r2) - numV r1 + 1; omega, by show numV (r1 + r2) - numV r1 + 1 ≤ 5; omega⟩ (by show sz * (1 + (r2 : Int)) = sz * (numV (r1 + r2) - numV r1 + 1); congr 1; omega) (by omega) (by omega) (.inr ⟨_, _, _, _, _, _, _, _, rfl, rfl⟩) (D.at D.size.symm)
end
end Mine
end
section
namespace Mine
noncomputable def ptSize : Int → List Pt → Int
  | x, [] => x
  | x, p :: l => ptSize (x * (ptH p - ptL p + 1)) l
noncomputable def PrLoop (w : World) (b1 : Bool) (m : Nat) : Prop := ∀ (A : Around) (h : Heap) (R : Result → Shared → Prop) (d : Drawn) (os : OsState) (it j fr k0 k1 : Nat) (sz : Int) (tz k2 po : Nat) (pv : List Value) (n fa ca : Nat) (turn : Int) (tu n1 : Nat) (vs : List Value) (n2 t0 : Nat) (more : List DictEntry) (nn : Nat),
    A.handled = none → A.depth ≤ 580 → Known (vf w b1).params h → (∀ p ∈ prL it j m fr (prF (vf w b1).params fa k0 k1 (.int sz tz) k2 po more nn) po pv n fa ca turn tu n1 vs n2, h.get? p.1 = some p.2 ∧ (kq (vf w b1).params).get p.1 = none) → [it, fr, po, fa, ca].Nodup →
    PrMore (vf w b1).params more nn → pv.length + m ≤ 100 → Cells vs → vs.length ≤ 63 → 0 ≤ turn → turn + 3 * m ≤ 900 →
    (∀ (h' : Heap) (t' : Nat) (ps : List Pt) (l : List (List Nat × Tok)) (n' : Nat) (turn' : Int) (tu' tz' : Nat) (more' : List DictEntry) (nn' : Nat), Aft h h' [it, fr, po, fa] → ps.length = m → (∀ p ∈ ps, PtS p) → l.map (·.1) = ps.map ptT → h'.get? po = some (lst (pv ++ strL l) n') → turn ≤ turn' → turn' ≤ turn + 3 * m → h'.get? fa = some (lst [.ref ca, .int turn' tu'] n1) →
      PrMore (vf w b1).params more' nn' → h'.get? fr = some (prF (vf w b1).params fa k0 k1 (.int (ptSize sz ps) tz') k2 po more' nn') → R (.ok .next) ⟨h', #[], d, t', os⟩) →
    codeAny (model PySem.Challenge.pw_pf0369_01 (vf w b1)) A (cP it fr) R ⟨h, #[], d, t0, os⟩
theorem pr_loop (w : World) (b1 : Bool) (m : Nat) : PrLoop w b1 m := by
  induction m with
  | zero =>
    intro A  h  R  d  os  it  j  fr  k0  k1  sz  tz  k2  po  pv  n  fa  ca  turn  tu  n1  vs  n2  t0  more  nn  hA  hd  K  hh  hn  hm  hl  hv  hvl  h0  h1  post
    obtain ⟨ha, dp, f, gu, un⟩ := A
    cases hA
    have hA : dp ≤ 600 := Nat.le_trans hd (by decide)
    refine enter (V := prV (vf w b1) dp un f gu h [it, fr, po, fa] R d os) (T := LT.of 0 (prL it j 0 fr (prF (vf w b1).params fa k0 k1 (.int sz tz) k2 po more nn) po pv n fa ca turn tu n1 vs n2) .nil) (m := 5) hA (by show 600 < 1000; decide) (startM _ K rfl (by kernel_rfl) (by kernel_rfl) hh hn rfl) ?_
    refine seg hA (by show 4 ≤ 5; decide) 15 246359458578945 (by refine bk b1 ?_ ?_ <;> kernel_rfl) (by refine bk b1 ?_ ?_ <;> kernel_rfl) ?_
    refine Go.done .next (by refine bk b1 ?_ ?_ <;> kernel_rfl) (by refine bk b1 ?_ ?_ <;> kernel_rfl) fun h' D => ?_
    exact post h' _ [] [] n turn tu tz more nn D.aft rfl (by simp) rfl (by rw [show pv ++ strL [] = pv from List.append_nil _]; exact D.own 2 po (lst pv n) (by refine bk b1 ?_ ?_ <;> kernel_rfl)) (Int.le_refl _) (by omega) (D.own 3 fa (lst [.ref ca, .int turn tu] n1) (by refine bk b1 ?_ ?_ <;> kernel_rfl)) hm (D.own 1 fr (prF (vf w b1).params fa k0 k1 (.int sz tz) k2 po more nn) (by refine bk b1 ?_ ?_ <;> kernel_rfl))
  | succ m ih =>
    intro A  h  R  d  os  it  j  fr  k0  k1  sz  tz  k2  po  pv  n  fa  ca  turn  tu  n1  vs  n2  t0  more  nn  hA  hd  K  hh  hn  hm  hl  hv  hvl  h0  h1  post
    obtain ⟨ha, dp, f, gu, un⟩ := A
    cases hA
    have hA : dp ≤ 600 := Nat.le_trans hd (by decide)
    refine enter (V := prV (vf w b1) dp un f gu h [it, fr, po, fa] R d os) (T := LT.of 0 (prL it j (m + 1) fr (prF (vf w b1).params fa k0 k1 (.int sz tz) k2 po more nn) po pv n fa ca turn tu n1 vs n2) .nil) (m := 5) hA (by show 600 < 1000; decide) (startM _ K rfl (by kernel_rfl) (by kernel_rfl) hh hn rfl) ?_
    refine pr_turn w b1 dp un f gu h R d os it j m fr k0 k1 sz tz k2 po pv n fa ca turn tu n1 vs n2 t0 hd more nn hm (by omega) hv hvl h0 (by omega) ?_
    intro p tok sz' turn' tu' tz' more' h1' t1 hp hsz ht1 ht2 hm' D
    have o0 := D.own 0 it (rngI (j + 1) m) (by kernel_rfl)
    have o1 := D.own 1 fr (prF (vf w b1).params fa k0 k1 (.int sz' tz') k2 po more' 7) (by kernel_rfl)
    have o2 := D.own 2 po (lst (pv ++ [.str ⟨⟨ptT p⟩⟩ tok]) (n + 1)) (by kernel_rfl)
    have o3 := D.own 3 fa (lst [.ref ca, .int turn' tu'] n1) (by kernel_rfl)
    have o4 := D.own 4 ca (lst vs n2) (by kernel_rfl)
    have f0 := D.off 0 it (rngI (j + 1) m) (by kernel_rfl)
    have f1 := D.off 1 fr (prF (vf w b1).params fa k0 k1 (.int sz' tz') k2 po more' 7) (by kernel_rfl)
    have f2 := D.off 2 po (lst (pv ++ [.str ⟨⟨ptT p⟩⟩ tok]) (n + 1)) (by kernel_rfl)
    have f3 := D.off 3 fa (lst [.ref ca, .int turn' tu'] n1) (by kernel_rfl)
    have f4 := D.off 4 ca (lst vs n2) (by kernel_rfl)
    refine ih ⟨none, dp, f, gu, un⟩ h1' R d os it (j + 1) fr k0 k1 sz' tz' k2 po (pv ++ [.str ⟨⟨ptT p⟩⟩ tok]) (n + 1) fa ca turn' tu' n1 vs n2 t1 more' 7 rfl hd D.known ?_ hn hm' (by simp only [List.length_append, List.length_cons, List.length_nil]; omega) hv hvl (by omega) (by omega) ?_
    · intro q hq
      simp only [prL, List.mem_cons, List.not_mem_nil, or_false] at hq
      rcases hq with rfl | rfl | rfl | rfl | rfl
      · exact ⟨o0, f0⟩
      · exact ⟨o1, f1⟩
      · exact ⟨o2, f2⟩
      · exact ⟨o3, f3⟩
      · exact ⟨o4, f4⟩
    · intro h' t' ps l n' turn2 tu2 tz2 m2 nn2 F hlen hps hlp hpo ht3 ht4 hfa hm2 hfr
      refine post h' t' (p :: ps) ((ptT p, tok) :: l) n' turn2 tu2 tz2 m2 nn2 (D.aft.trans F) (by rw [List.length_cons, hlen]) ?_ (by rw [List.map_cons, List.map_cons, hlp]) ?_ (by omega) (by omega) hfa hm2 ?_
      · intro q hq
        rcases List.mem_cons.mp hq with rfl | hq
        · exact hp
        · exact hps q hq
      · rw [hpo, List.append_assoc]; rfl
      · rw [hfr, hsz]; rfl
/-- _law_prototype(feed) -/
noncomputable def ProtoSpec (w : World) : Prop := ∀ (A : Around) (h : Heap) (fa ca : Nat) (turn : Int) (tu n1 n2 t0 : Nat) (vs : List Value) (d : Drawn) (os : OsState) (R : Result → Shared → Prop),
  A.handled = none → A.depth ≤ 570 → Known w.params h → h.get? fa = some (lst [.ref ca, .int turn tu] n1) → h.get? ca = some (lst vs n2) → fa ≠ ca → (kq w.params).get fa = none → (kq w.params).get ca = none →
  Cells vs → vs.length ≤ 63 → 0 ≤ turn → turn ≤ 800 →
  (∀ (ps : List Pt) (tx tz ta : Nat) (turn' : Int) (tu' : Nat) (h' : Heap) (t' : Nat), ps ≠ [] → ps.length ≤ 3 → (∀ p ∈ ps, PtS p) → turn ≤ turn' → turn' ≤ turn + 10 → h.objs.size ≤ ta → (kq w.params).get ta = none → h'.get? ta = some (tup [.str ⟨⟨joinC 44 (ps.map ptT)⟩⟩ tx, .int (ptSize 1 ps) tz]) →
    h'.get? fa = some (lst [.ref ca, .int turn' tu'] n1) → Aft h h' [fa] → R (.ok (.ret (.ref ta))) ⟨h', #[], d, t', os⟩) →
  codeAny (model PySem.Challenge.pw_pf0369_01 w) A (.call (.ref 340) ⟨[.ref fa], []⟩) R ⟨h, #[], d, t0, os⟩
noncomputable def afterPt (t : Sem PySem.Fin) : Sem PySem.Fin := match t with
  | .point _ k => k ()
  | t => t
noncomputable def sufP (fr : Nat) : Sem PySem.Fin := afterPt (dz (.func ((fdB (st 38)).drop 2) (prEnv fr)))
theorem join_any (ps : List Pt) (l : List (List Nat × Tok)) (hne : ps ≠ []) (h3 : ps.length ≤ 3) (hps : ∀ p ∈ ps, PtS p) (hlp : l.map (·.1) = ps.map ptT) :
    ∃ (tx : Nat → Nat) (dt : Nat), ∀ (prog : Program) (w : World) (A : Around) (s : Shared) (R : Result → Shared → Prop) (a t n : Nat), s.heap.get? a = some (lst (strL l) n) → R (.ok (.ret (.str ⟨⟨joinC 44 (ps.map ptT)⟩⟩ (tx s.toks)))) { s with toks := s.toks + dt } →
      codeAny (model prog w) A (.call (.builtin "str.join") ⟨[.str ⟨⟨[44]⟩⟩ t, .ref a], []⟩) R s := by
  have hb : ∀ p ∈ l, p.1.length ≤ 1000 := fun p hp => by
    have : p.1 ∈ ps.map ptT := hlp ▸ List.mem_map.mpr ⟨p, hp, rfl⟩
    obtain ⟨q, hq, e⟩ := List.mem_map.mp this
    have := (ptT_no (hps q hq).1).2.2
    rw [← e]; omega
  have hlen : l.length = ps.length := by have := congrArg List.length hlp; simpa using this
  rw [← hlp]
  rcases l with _ | ⟨⟨x, u⟩, _ | ⟨y, l⟩⟩
  · rcases ps with _ | ⟨p, ps⟩
    · exact absurd rfl hne
    · simp at hlen
  · exact ⟨fun _ => u, 0, fun prog w A s R a t n ha hR => c_join1 44 ha (hb (x, u) (by simp)) hR⟩
  · exact ⟨id, 1, fun prog w A s R a t n ha hR => c_join 44 ha (by simp) (by rw [hlen]; omega) hb hR⟩
theorem Go.sameZ {V : Wb} {S : St} {r : Result} (c : Code) (t : Sem PySem.Fin) (m : Nat) {h : Heap} {T : LT} {nx tk : Nat} (e : (S.c, S.κ, callK S.t r) = (c, [], t)) (D : Rep V.toWs V.h₀ V.M T nx h) (G : Go V ⟨c, [], t, T, m, nx, tk⟩) : Means V S.c S.κ (callK S.t r) ⟨h, #[], V.d, tk, V.os⟩ := by
  have e1 : S.c = c := congrArg (·.1) e
  have e2 : S.κ = [] := congrArg (·.2.1) e
  have e3 : callK S.t r = t := congrArg (·.2.2) e
  rw [e1, e2, e3]
  exact G h D
theorem pr_tail (w : World) (b1 : Bool) (dp un : Nat) (f : Option (List Env)) (gu : Option (List Code)) (h : Heap) (R : Result → Shared → Prop) (d : Drawn) (os : OsState) (fa ca : Nat) (turn' : Int) (tu' n1 : Nat) (vs : List Value) (n2 fr k0 k1 : Nat) (sz : Int) (tz k2 po : Nat) (more : List DictEntry) (nn : Nat) (ps : List Pt) (l : List (List Nat × Tok)) (n' nx tk : Nat)
    (hA : dp ≤ 600) (hm : PrMore (vf w b1).params more nn) (hne : ps ≠ []) (h3 : ps.length ≤ 3) (hps : ∀ p ∈ ps, PtS p) (hlp : l.map (·.1) = ps.map ptT)
    (post : ∀ tx h' t', Rep (nextV (vf w b1) dp un f gu h [fa] R d os).toWs h [fa] (LT.of 0 [(fa, lst [.ref ca, .int turn' tu'] n1), (ca, lst vs n2), (fr, prF (vf w b1).params fa k0 k1 (.int sz tz) k2 po more nn), (po, lst (strL l) n'), (nx, tup [.str ⟨⟨joinC 44 (ps.map ptT)⟩⟩ tx, .int sz tz])] .nil) (nx + 1) h' → R (.ok (.ret (.ref nx))) ⟨h', #[], d, t', os⟩) :
    Go (nextV (vf w b1) dp un f gu h [fa] R d os) ⟨.func (fdB (st 38)) (prEnv fr), [], sufP fr, LT.of 0 [(fa, lst [.ref ca, .int turn' tu'] n1), (ca, lst vs n2), (fr, prF (vf w b1).params fa k0 k1 (.int sz tz) k2 po more nn), (po, lst (strL l) n')] .nil, 4, nx, tk⟩ := by
  obtain ⟨tx, dt, hj⟩ := join_any ps l hne h3 hps hlp
  rcases hm with ⟨rfl, rfl⟩ | ⟨q3, v3, q4, v4, q5, v5, q6, v6, rfl, rfl⟩
  all_goals
    refine seg hA (by show 1 ≤ 2; decide) 8 3 (by refine bk b1 ?_ ?_ <;> kernel_rfl) (by refine bk b1 ?_ ?_ <;> kernel_rfl) ?_
    refine Go.callP (.call (.builtin "str.join") ⟨[.str ⟨⟨[44]⟩⟩ tk, .ref po], []⟩) none (by refine bk b1 ?_ ?_ <;> kernel_rfl) rfl (fun t => .ok (.ret (.str ⟨⟨joinC 44 (ps.map ptT)⟩⟩ (tx t)))) dt (fun h' R' D p => hj _ _ _ _ _ po _ n' (D.own 3 po (lst (strL l) n') (by refine bk b1 ?_ ?_ <;> kernel_rfl)) p) ?_
    refine seg hA (by show 1 ≤ 2; decide) 4 3 (by refine bk b1 ?_ ?_ <;> kernel_rfl) (by refine bk b1 ?_ ?_ <;> kernel_rfl) ?_
    refine Go.done (.ret (.ref nx)) (by refine bk b1 ?_ ?_ <;> kernel_rfl) (by refine bk b1 ?_ ?_ <;> kernel_rfl) fun h' D => post (tx (tk + 1)) h' _ ((D.cut [0, 1, 2, 3, 4] _ (by refine bk b1 ?_ ?_ <;> kernel_rfl) (by refine bk b1 ?_ ?_ <;> kernel_rfl) (by decide) (by refine bk b1 ?_ ?_ <;> kernel_rfl)).at (by refine bk b1 ?_ ?_ <;> kernel_rfl))
theorem proto_spec : ∀ w, ProtoSpec w := by
  refine worldsB fun w b1 => ?_
  intro A h fa ca turn tu n1 n2 t0 vs d os R hA hd K hf hc ne kf kc hv hl h0 h1 post
  obtain ⟨ha, dp, fr, gu, un⟩ := A
  cases hA
  have hd : dp ≤ 570 := hd
  have hA : dp ≤ 600 := Nat.le_trans hd (by decide)
  refine enter (V := nextV _ dp un fr gu h [fa] R d os) (T := T2 fa (lst [.ref ca, .int turn tu] n1) ca (lst vs n2)) (m := 2) hA (by show 600 < 1000; decide) (start2 (V := (nextV _ dp un fr gu h [fa] R d os).toWs) K hf hc ne kf kc rfl rfl) ?_
  refine seg hA (by show 1 ≤ 2; decide) 86 13760991696141069730578209828690055185929737698782711888311349429694743501865756558424148094968204987465728 (by refine bk b1 ?_ ?_ <;> kernel_rfl) (by refine bk b1 ?_ ?_ <;> kernel_rfl) ?_
  refine Go.draw 0 1 fa ca turn tu n1 n2 2 vs (dp + 1) rfl rfl (by refine bk b1 ?_ ?_ <;> kernel_rfl) (by refine bk b1 ?_ ?_ <;> kernel_rfl) (by refine bk b1 ?_ ?_ <;> kernel_rfl) (by decide) (.inl (by show 0 < 1; decide)) hv hl h0 (by omega) (by refine bk b1 ?_ ?_ <;> kernel_rfl) (by omega) fun r tr tu1 nx1 t1 hr => ?_
  have loopA : ∀ (m : Nat) (h1' : Heap) (T : LT) (nx t2 : Nat) (A' : Around) (R' : Result → Shared → Prop), 1 ≤ m → m ≤ 3 → A'.handled = none → A'.depth ≤ 580 → Rep (nextV (vf w b1) dp un fr gu h [fa] R d os).toWs h [fa] T nx h1' →
      (∀ x ∈ ([(9, nx1 + 1, rngI 0 m), (2, h.objs.size, (prF (vf w b1).params fa t0 (t0 + 2) (.int 1 (t0 + 1)) (t0 + 3) (h.objs.size + 1) [] 3)), (3, h.objs.size + 1, lst [] 0), (0, fa, lst [.ref ca, .int (turn + 1) tu1] n1), (1, ca, lst vs n2)] : List (Nat × Nat × Obj)), T.get x.1 = some (x.2.1, x.2.2)) →
      (∀ (h2 : Heap) (t3 : Nat) (ps : List Pt) (l : List (List Nat × Tok)) (n' : Nat) (turn' : Int) (tu' tz' : Nat) (more' : List DictEntry) (nn' : Nat), ps.length = m → (∀ p ∈ ps, PtS p) → l.map (·.1) = ps.map ptT → turn + 1 ≤ turn' → turn' ≤ turn + 10 → PrMore (vf w b1).params more' nn' →
        Rep (nextV (vf w b1) dp un fr gu h [fa] R d os).toWs h [fa] (LT.of 0 [(fa, lst [.ref ca, .int turn' tu'] n1), (ca, lst vs n2), (h.objs.size, prF (vf w b1).params fa t0 (t0 + 2) (.int (ptSize 1 ps) tz') (t0 + 3) (h.objs.size + 1) more' nn'), (h.objs.size + 1, lst (strL l) n')] .nil) h2.objs.size h2 → R' (.ok .next) ⟨h2, #[], d, t3, os⟩) →
      codeAny (model PySem.Challenge.pw_pf0369_01 (vf w b1)) A' (cP (nx1 + 1) h.objs.size) R' ⟨h1', #[], d, t2, os⟩ := by
    intro m h1' T nx t2 A' R' hm1 hm3 hA1 hA2 D hT next
    have g9 := hT _ (List.mem_cons_self ..)
    have g2 := hT _ (List.mem_cons_of_mem _ (List.mem_cons_self ..))
    have g3 := hT _ (List.mem_cons_of_mem _ (List.mem_cons_of_mem _ (List.mem_cons_self ..)))
    have g0 := hT _ (List.mem_cons_of_mem _ (List.mem_cons_of_mem _ (List.mem_cons_of_mem _ (List.mem_cons_self ..))))
    have g1 := hT _ (List.mem_cons_of_mem _ (List.mem_cons_of_mem _ (List.mem_cons_of_mem _ (List.mem_cons_of_mem _ (List.mem_cons_self ..)))))
    have nd := D.nd _ hT (by show [9, 2, 3, 0, 1].Nodup; decide)
    dsimp only at g9 g2 g3 g0 g1
    refine pr_loop w b1 m A' h1' R' d os (nx1 + 1) 0 h.objs.size t0 (t0 + 2) 1 (t0 + 1) (t0 + 3) (h.objs.size + 1) [] 0 fa ca (turn + 1) tu1 n1 vs n2 t2 [] 3 hA1 hA2 D.known ?_ nd (.inl ⟨rfl, rfl⟩) (by simp only [List.length_nil]; omega) hv hl (by omega) (by omega) ?_
    · intro q hq
      simp only [prL, List.mem_cons, List.not_mem_nil, or_false] at hq
      rcases hq with rfl | rfl | rfl | rfl | rfl
      · exact ⟨D.own _ _ _ g9, D.off _ _ _ g9⟩
      · exact ⟨D.own _ _ _ g2, D.off _ _ _ g2⟩
      · exact ⟨D.own _ _ _ g3, D.off _ _ _ g3⟩
      · exact ⟨D.own _ _ _ g0, D.off _ _ _ g0⟩
      · exact ⟨D.own _ _ _ g1, D.off _ _ _ g1⟩
    · intro h2 t3 ps l n' turn' tu' tz' more' nn' F hlen hps hlp hpo ht1 ht2 hfa hm2 hfr
      refine next h2 t3 ps l n' turn' tu' tz' more' nn' hlen hps hlp ht1 (by omega) hm2 (D.stepN F ?_ ?_)
      · intro i a o e
        have z := LT.key (l := [(fa, lst [.ref ca, .int turn' tu'] n1), (ca, lst vs n2), (h.objs.size, prF (vf w b1).params fa t0 (t0 + 2) (.int (ptSize 1 ps) tz') (t0 + 3) (h.objs.size + 1) more' nn'), (h.objs.size + 1, lst (strL l) n')]) (by kernel_rfl) (by kernel_rfl) i a o e
        rcases i with _ | _ | _ | _ | i
        · cases z; exact ⟨hfa, _, g0⟩
        · cases z
          refine ⟨F.keep _ _ (D.own _ _ _ g1) ?_, _, g1⟩
          intro hm
          simp only [List.mem_cons, List.not_mem_nil, or_false] at hm
          rcases hm with e | e | e | e
          · exact absurd (D.one 1 9 ca (lst vs n2) (rngI 0 m) g1 (by rw [e]; exact g9)) (by decide)
          · exact absurd (D.one 1 2 ca (lst vs n2) (prF (vf w b1).params fa t0 (t0 + 2) (.int 1 (t0 + 1)) (t0 + 3) (h.objs.size + 1) [] 3) g1 (by rw [e]; exact g2)) (by decide)
          · exact absurd (D.one 1 3 ca (lst vs n2) (lst [] 0) g1 (by rw [e]; exact g3)) (by decide)
          · exact ne e.symm
        · cases z; exact ⟨hfr, _, g2⟩
        · cases z; exact ⟨hpo, _, g3⟩
        · simp at z
      · intro a ha
        simp only [List.mem_cons, List.not_mem_nil, or_false] at ha
        rcases ha with rfl | rfl | rfl | rfl
        · exact ⟨9, _, g9, .inr (by show 2 ≤ 9; decide)⟩
        · exact ⟨2, _, g2, .inr (by show 2 ≤ 2; decide)⟩
        · exact ⟨3, _, g3, .inr (by show 2 ≤ 3; decide)⟩
        · exact ⟨0, _, g0, .inl (by show 0 < 1; decide)⟩
  rcases (by omega : r = 0 ∨ r = 1 ∨ r = 2) with rfl | rfl | rfl
  · refine seg hA (by show 1 ≤ 2; decide) 38 12401203642078007098255610377 (by refine bk b1 ?_ ?_ <;> kernel_rfl) (by refine bk b1 ?_ ?_ <;> kernel_rfl) ?_
    refine Go.call (cP (nx1 + 1) h.objs.size) none (by refine bk b1 ?_ ?_ <;> kernel_rfl) rfl fun h1' D => ?_
    refine loopA 1 h1' _ _ _ _ _ (by decide) (by decide) (by refine bk b1 ?_ ?_ <;> kernel_rfl) (depth_le (b := dp + 1) (by refine bk b1 ?_ ?_ <;> kernel_rfl) (by omega)) D ?_ ?_
    · intro x hx
      simp only [List.mem_cons, List.not_mem_nil, or_false] at hx
      rcases hx with rfl | rfl | rfl | rfl | rfl
      · exact (by refine bk b1 ?_ ?_ <;> kernel_rfl)
      · exact (by refine bk b1 ?_ ?_ <;> kernel_rfl)
      · exact (by refine bk b1 ?_ ?_ <;> kernel_rfl)
      · exact (by refine bk b1 ?_ ?_ <;> kernel_rfl)
      · exact (by refine bk b1 ?_ ?_ <;> kernel_rfl)
    · intro h2 t3 ps l n' turn' tu' tz' more' nn' hlen hps hlp ht1 ht2 hm2 D2
      refine Go.sameZ (.func (fdB (st 38)) (prEnv h.objs.size)) (sufP h.objs.size) 4 (by refine bk b1 ?_ ?_ <;> kernel_rfl) D2 (pr_tail w b1 dp un fr gu h R d os fa ca turn' tu' n1 vs n2 h.objs.size t0 (t0 + 2) (ptSize 1 ps) tz' (t0 + 3) (h.objs.size + 1) more' nn' ps l n' _ _ hA hm2 (by rintro rfl; cases hlen) (by omega) hps hlp fun tx h' t' D3 => ?_)
      exact post ps tx tz' _ turn' tu' h' t' (by rintro rfl; cases hlen) (by omega) hps (by omega) (by omega) D2.more (D3.off 4 _ (tup [.str ⟨⟨joinC 44 (ps.map ptT)⟩⟩ tx, .int (ptSize 1 ps) tz']) (by kernel_rfl)) (D3.own 4 _ (tup [.str ⟨⟨joinC 44 (ps.map ptT)⟩⟩ tx, .int (ptSize 1 ps) tz']) (by kernel_rfl)) (D3.own 0 fa (lst [.ref ca, .int turn' tu'] n1) (by kernel_rfl)) D3.aft
  · refine seg hA (by show 1 ≤ 2; decide) 38 12401203642078007098255610377 (by refine bk b1 ?_ ?_ <;> kernel_rfl) (by refine bk b1 ?_ ?_ <;> kernel_rfl) ?_
    refine Go.call (cP (nx1 + 1) h.objs.size) none (by refine bk b1 ?_ ?_ <;> kernel_rfl) rfl fun h1' D => ?_
    refine loopA 2 h1' _ _ _ _ _ (by decide) (by decide) (by refine bk b1 ?_ ?_ <;> kernel_rfl) (depth_le (b := dp + 1) (by refine bk b1 ?_ ?_ <;> kernel_rfl) (by omega)) D ?_ ?_
    · intro x hx
      simp only [List.mem_cons, List.not_mem_nil, or_false] at hx
      rcases hx with rfl | rfl | rfl | rfl | rfl
      · exact (by refine bk b1 ?_ ?_ <;> kernel_rfl)
      · exact (by refine bk b1 ?_ ?_ <;> kernel_rfl)
      · exact (by refine bk b1 ?_ ?_ <;> kernel_rfl)
      · exact (by refine bk b1 ?_ ?_ <;> kernel_rfl)
      · exact (by refine bk b1 ?_ ?_ <;> kernel_rfl)
    · intro h2 t3 ps l n' turn' tu' tz' more' nn' hlen hps hlp ht1 ht2 hm2 D2
      refine Go.sameZ (.func (fdB (st 38)) (prEnv h.objs.size)) (sufP h.objs.size) 4 (by refine bk b1 ?_ ?_ <;> kernel_rfl) D2 (pr_tail w b1 dp un fr gu h R d os fa ca turn' tu' n1 vs n2 h.objs.size t0 (t0 + 2) (ptSize 1 ps) tz' (t0 + 3) (h.objs.size + 1) more' nn' ps l n' _ _ hA hm2 (by rintro rfl; cases hlen) (by omega) hps hlp fun tx h' t' D3 => ?_)
      exact post ps tx tz' _ turn' tu' h' t' (by rintro rfl; cases hlen) (by omega) hps (by omega) (by omega) D2.more (D3.off 4 _ (tup [.str ⟨⟨joinC 44 (ps.map ptT)⟩⟩ tx, .int (ptSize 1 ps) tz']) (by kernel_rfl)) (D3.own 4 _ (tup [.str ⟨⟨joinC 44 (ps.map ptT)⟩⟩ tx, .int (ptSize 1 ps) tz']) (by kernel_rfl)) (D3.own 0 fa (lst [.ref ca, .int turn' tu'] n1) (by kernel_rfl)) D3.aft
  · refine seg hA (by show 1 ≤ 2; decide) 38 12401203642078007098255610377 (by refine bk b1 ?_ ?_ <;> kernel_rfl) (by refine bk b1 ?_ ?_ <;> kernel_rfl) ?_
    refine Go.call (cP (nx1 + 1) h.objs.size) none (by refine bk b1 ?_ ?_ <;> kernel_rfl) rfl fun h1' D => ?_
    refine loopA 3 h1' _ _ _ _ _ (by decide) (by decide) (by refine bk b1 ?_ ?_ <;> kernel_rfl) (depth_le (b := dp + 1) (by refine bk b1 ?_ ?_ <;> kernel_rfl) (by omega)) D ?_ ?_
    · intro x hx
      simp only [List.mem_cons, List.not_mem_nil, or_false] at hx
      rcases hx with rfl | rfl | rfl | rfl | rfl
      · exact (by refine bk b1 ?_ ?_ <;> kernel_rfl)
      · exact (by refine bk b1 ?_ ?_ <;> kernel_rfl)
      · exact (by refine bk b1 ?_ ?_ <;> kernel_rfl)
      · exact (by refine bk b1 ?_ ?_ <;> kernel_rfl)
      · exact (by refine bk b1 ?_ ?_ <;> kernel_rfl)
    · intro h2 t3 ps l n' turn' tu' tz' more' nn' hlen hps hlp ht1 ht2 hm2 D2
      refine Go.sameZ (.func (fdB (st 38)) (prEnv h.objs.size)) (sufP h.objs.size) 4 (by refine bk b1 ?_ ?_ <;> kernel_rfl) D2 (pr_tail w b1 dp un fr gu h R d os fa ca turn' tu' n1 vs n2 h.objs.size t0 (t0 + 2) (ptSize 1 ps) tz' (t0 + 3) (h.objs.size + 1) more' nn' ps l n' _ _ hA hm2 (by rintro rfl; cases hlen) (by omega) hps hlp fun tx h' t' D3 => ?_)
      exact post ps tx tz' _ turn' tu' h' t' (by rintro rfl; cases hlen) (by omega) hps (by omega) (by omega) D2.more (D3.off 4 _ (tup [.str ⟨⟨joinC 44 (ps.map ptT)⟩⟩ tx, .int (ptSize 1 ps) tz']) (by kernel_rfl)) (D3.own 4 _ (tup [.str ⟨⟨joinC 44 (ps.map ptT)⟩⟩ tx, .int (ptSize 1 ps) tz']) (by kernel_rfl)) (D3.own 0 fa (lst [.ref ca, .int turn' tu'] n1) (by kernel_rfl)) D3.aft
end Mine
end
section
namespace Mine
noncomputable def lawΓ (sa : Nat) : PySem.Ctx := ⟨.call (.ref 352) ⟨[.ref sa], []⟩, none, none, [(.builtin "claim.caller" {}, default)], none⟩
noncomputable def W4 (w : World) (b1 b2 : Bool) : World := vf (vg w b2) b1
noncomputable def wsL (w : World) : Ws := ⟨PySem.Challenge.pw_pf0369_01, w, {}, 0, 1, 2, kq w.params, []⟩
noncomputable def VL (w : World) (sa : Nat) : VX := ⟨wsL w, lawΓ sa⟩
noncomputable def tabO (vs : List Value) : Obj := ⟨.none, none, .fields ⟨vs⟩, ⟨[]⟩⟩
/-- what is fixed in one call of the law -/
structure Lw where
  w0 : World
  b1 : Bool
  b2 : Bool
  sa : Nat
  b : Nat
  t0 : Nat
  its : List Value
  n0 : Nat
  tv : List Value
  its' : List Value
noncomputable def Lw.w (L : Lw) : World := W4 L.w0 L.b1 L.b2
noncomputable def sL0 (L : Lw) : SX := ⟨.call (.ref 352) ⟨[.ref L.sa], []⟩, [], dX (.call (.ref 352) ⟨[.ref L.sa], []⟩), default, T2 349 (tabO L.tv) L.sa (lst L.its L.n0), 2, L.b, L.t0⟩
/-- at the slice -/
noncomputable def sL1 (L : Lw) : SX := (sL0 L).run (VL L.w L.sa) 25 9463215844163538649088
noncomputable def sL2 (L : Lw) : SX :=
  ⟨(sL1 L).c, (sL1 L).κ, callK (sL1 L).t (.ok (.ret (.ref (L.b + 5)))), (sL1 L).p, (sL1 L).T.put 7 (L.b + 5) (lst L.its' 0), 8, L.b + 6, (sL1 L).tk⟩
/-- at the comprehension -/
noncomputable def sL3 (L : Lw) : SX := (sL2 L).run (VL L.w L.sa) 13 1210060808
noncomputable def VC (L : Lw) : VX := ⟨wsL L.w, (ctxX (lawΓ L.sa) (sL3 L).κ (sL3 L).c).enter (cOf (sL3 L).t) none (sL3 L).p⟩
noncomputable def loopOf : Code → Code
  | .compStart e d it acc env => .compLoop e d it acc env
  | c => c
noncomputable def cC (L : Lw) : Code := loopOf (cOf (sL3 L).t)
noncomputable def sScript : Str := ⟨⟨[115, 99, 114, 105, 112, 116]⟩⟩
noncomputable def sCell : Str := ⟨⟨[99, 101, 108, 108]⟩⟩
noncomputable def dictC (P : Params) : Option (Nat × Value) → Obj
  | none => ⟨.type "dict", none, .dict ⟨[]⟩ 0, ⟨[]⟩⟩
  | some (k, v) => ⟨.type "dict", none, .dict ⟨[⟨PySem.PyData.keyHash P sCell, .str sCell k, v⟩]⟩ 1, ⟨[]⟩⟩
noncomputable def TC (L : Lw) (i : Nat) (acc : List Value) (x : Option (Nat × Value)) : LT :=
  LT.of 0 [(349, tabO L.tv), (L.sa, lst L.its L.n0), (L.b, ⟨.type "frame", none, .dict ⟨[⟨PySem.PyData.keyHash L.w.params sScript, .str sScript L.t0, .ref L.sa⟩]⟩ 1, ⟨[]⟩⟩),
    (L.b + 1, ⟨.type "cell", none, .cell none, ⟨[]⟩⟩), (L.b + 2, ⟨.type "cell", none, .cell none, ⟨[]⟩⟩), (L.b + 3, ⟨.type "cell", none, .cell none, ⟨[]⟩⟩),
    (L.b + 4, ⟨.type "slice", none, .fields ⟨[.none, .int 24 (L.t0 + 1), .none]⟩, ⟨[]⟩⟩), (L.b + 5, lst L.its' 0), (L.b + 6, litr (L.b + 5) i none ⟨[]⟩), (L.b + 7, lst acc i), (L.b + 8, dictC L.w.params x)] .nil
noncomputable def sC (L : Lw) (i : Nat) (acc : List Value) (x : Option (Nat × Value)) (p : Pos) (tk : Nat) : SX := ⟨cC L, [], dX (cC L), p, TC L i acc x, 11, L.b + 9, tk⟩
section
variable (L : Lw) (h₀ : Heap) (R₀ : Result → Shared → Prop) (d : Drawn) (os : OsState)
noncomputable def vb (V : VX) (h₀ : Heap) (R₀ : Result → Shared → Prop) (d : Drawn) (os : OsState) : VB := ⟨V, h₀, [349], R₀, d, os⟩
theorem comp_turn (i : Nat) (acc : List Value) (x : Option (Nat × Value)) (p : Pos) (tk : Nat) (k : Int) (tok : Nat) (hx : L.its'.toArray[i]? = some (.int k tok)) (hi : acc.length ≤ sizeLine)
    (next : ∀ p' tk' x' n u, GoX (vb (VC L) h₀ R₀ d os) (sC L (i + 1) (acc ++ [.int (.ofNat n) u]) (some x') p' tk')) : GoX (vb (VC L) h₀ R₀ d os) (sC L i acc x p tk) := by
  obtain ⟨w0, b1, b2, sa, b, t0, its, n0, tv, its'⟩ := L
  cases b1 <;> (
    refine sx (by show 1 ≤ 2; decide) 2 9 (by kernel_rfl) (by kernel_rfl) ?_
    refine GoX.call (.call (.builtin "list_iterator.__next__") ⟨[.ref (b + 6)], []⟩) none (by kernel_rfl) AX rfl (by kernel_rfl) ?_
    intro h1 D
    refine c_next_item (D.own 8 (b + 6) (litr (b + 5) i none ⟨[]⟩) (by kernel_rfl)) (lst_is (D.own 7 (b + 5) (lst its' 0) (by kernel_rfl))) hx ?_
    intro h2 hit hs F
    refine GoX.from 11 ?_ ((D.step1 (i := 8) (o := litr (b + 5) i none ⟨[]⟩) (by kernel_rfl) F hit (.inr (by show 2 ≤ 8; decide))).at (hs.trans D.size))
    cases k with
    | ofNat n =>
      rcases x with _ | ⟨kk, y⟩ <;> (
        refine sx (by show 1 ≤ 2; decide) 20 755914249739 (by kernel_rfl) (by kernel_rfl) ?_
        refine GoX.call (.call (.builtin "list.append") ⟨[.ref (b + 7), .int (.ofNat n) tok], []⟩) none (by kernel_rfl) AX rfl (by kernel_rfl) ?_
        intro h3 D
        refine c_append (D.own 9 (b + 7) (lst acc i) (by kernel_rfl)) hi ?_
        intro h4 ha hs F
        refine GoX.from 11 ?_ ((D.step1 (i := 9) (o := lst acc i) (by kernel_rfl) F ha (.inr (by show 2 ≤ 9; decide))).at (hs.trans D.size))
        refine sx (by show 1 ≤ 2; decide) 1 0 (by kernel_rfl) (by kernel_rfl) ?_)
      · exact GoX.cut [0, 1, 2, 3, 4, 5, 6, 7, 8, 9, 10] (sC ⟨w0, _, b2, sa, b, t0, its, n0, tv, its'⟩ (i + 1) (acc ++ [.int (.ofNat n) tok]) (some (tk, .int (.ofNat n) tok)) _ (tk + 1)) (by kernel_rfl) (by kernel_rfl) (by kernel_rfl) rfl (by kernel_rfl) (by kernel_rfl) (by kernel_rfl) (by kernel_rfl) (by decide) (by kernel_rfl) (next _ (tk + 1) (tk, .int (.ofNat n) tok) n tok)
      · exact GoX.cut [0, 1, 2, 3, 4, 5, 6, 7, 8, 9, 10] (sC ⟨w0, _, b2, sa, b, t0, its, n0, tv, its'⟩ (i + 1) (acc ++ [.int (.ofNat n) tok]) (some (kk, .int (.ofNat n) tok)) _ (tk + 1)) (by kernel_rfl) (by kernel_rfl) (by kernel_rfl) rfl (by kernel_rfl) (by kernel_rfl) (by kernel_rfl) (by kernel_rfl) (by decide) (by kernel_rfl) (next _ (tk + 1) (kk, .int (.ofNat n) tok) n tok)
    | negSucc n =>
      rcases n with _ | n <;> rcases x with _ | ⟨kk, y⟩
      · refine sx (by show 1 ≤ 2; decide) 21 755914249739 (by kernel_rfl) (by kernel_rfl) ?_
        refine GoX.call (.call (.builtin "list.append") ⟨[.ref (b + 7), .int (.ofNat (0 + 1)) (tk + 1)], []⟩) none (by kernel_rfl) AX rfl (by kernel_rfl) ?_
        intro h3 D
        refine c_append (D.own 9 (b + 7) (lst acc i) (by kernel_rfl)) hi ?_
        intro h4 ha hs F
        refine GoX.from 11 ?_ ((D.step1 (i := 9) (o := lst acc i) (by kernel_rfl) F ha (.inr (by show 2 ≤ 9; decide))).at (hs.trans D.size))
        refine sx (by show 1 ≤ 2; decide) 1 0 (by kernel_rfl) (by kernel_rfl) ?_
        exact GoX.cut [0, 1, 2, 3, 4, 5, 6, 7, 8, 9, 10] (sC ⟨w0, _, b2, sa, b, t0, its, n0, tv, its'⟩ (i + 1) (acc ++ [.int (.ofNat (0 + 1)) (tk + 1)]) (some (tk, .int (.negSucc 0) tok)) _ (tk + 2)) (by kernel_rfl) (by kernel_rfl) (by kernel_rfl) rfl (by kernel_rfl) (by kernel_rfl) (by kernel_rfl) (by kernel_rfl) (by decide) (by kernel_rfl) (next _ (tk + 2) (tk, .int (.negSucc 0) tok) (0 + 1) (tk + 1))
      · refine sx (by show 1 ≤ 2; decide) 21 755914249739 (by kernel_rfl) (by kernel_rfl) ?_
        refine GoX.call (.call (.builtin "list.append") ⟨[.ref (b + 7), .int (.ofNat (0 + 1)) (tk + 1)], []⟩) none (by kernel_rfl) AX rfl (by kernel_rfl) ?_
        intro h3 D
        refine c_append (D.own 9 (b + 7) (lst acc i) (by kernel_rfl)) hi ?_
        intro h4 ha hs F
        refine GoX.from 11 ?_ ((D.step1 (i := 9) (o := lst acc i) (by kernel_rfl) F ha (.inr (by show 2 ≤ 9; decide))).at (hs.trans D.size))
        refine sx (by show 1 ≤ 2; decide) 1 0 (by kernel_rfl) (by kernel_rfl) ?_
        exact GoX.cut [0, 1, 2, 3, 4, 5, 6, 7, 8, 9, 10] (sC ⟨w0, _, b2, sa, b, t0, its, n0, tv, its'⟩ (i + 1) (acc ++ [.int (.ofNat (0 + 1)) (tk + 1)]) (some (kk, .int (.negSucc 0) tok)) _ (tk + 2)) (by kernel_rfl) (by kernel_rfl) (by kernel_rfl) rfl (by kernel_rfl) (by kernel_rfl) (by kernel_rfl) (by kernel_rfl) (by decide) (by kernel_rfl) (next _ (tk + 2) (kk, .int (.negSucc 0) tok) (0 + 1) (tk + 1))
      · refine sx (by show 1 ≤ 2; decide) 21 755914249739 (by kernel_rfl) (by kernel_rfl) ?_
        refine GoX.call (.call (.builtin "list.append") ⟨[.ref (b + 7), .int (.ofNat ((n + 1) + 1)) (tk + 1)], []⟩) none (by kernel_rfl) AX rfl (by kernel_rfl) ?_
        intro h3 D
        refine c_append (D.own 9 (b + 7) (lst acc i) (by kernel_rfl)) hi ?_
        intro h4 ha hs F
        refine GoX.from 11 ?_ ((D.step1 (i := 9) (o := lst acc i) (by kernel_rfl) F ha (.inr (by show 2 ≤ 9; decide))).at (hs.trans D.size))
        refine sx (by show 1 ≤ 2; decide) 1 0 (by kernel_rfl) (by kernel_rfl) ?_
        exact GoX.cut [0, 1, 2, 3, 4, 5, 6, 7, 8, 9, 10] (sC ⟨w0, _, b2, sa, b, t0, its, n0, tv, its'⟩ (i + 1) (acc ++ [.int (.ofNat ((n + 1) + 1)) (tk + 1)]) (some (tk, .int (.negSucc (n + 1)) tok)) _ (tk + 2)) (by kernel_rfl) (by kernel_rfl) (by kernel_rfl) rfl (by kernel_rfl) (by kernel_rfl) (by kernel_rfl) (by kernel_rfl) (by decide) (by kernel_rfl) (next _ (tk + 2) (tk, .int (.negSucc (n + 1)) tok) ((n + 1) + 1) (tk + 1))
      · refine sx (by show 1 ≤ 2; decide) 21 755914249739 (by kernel_rfl) (by kernel_rfl) ?_
        refine GoX.call (.call (.builtin "list.append") ⟨[.ref (b + 7), .int (.ofNat ((n + 1) + 1)) (tk + 1)], []⟩) none (by kernel_rfl) AX rfl (by kernel_rfl) ?_
        intro h3 D
        refine c_append (D.own 9 (b + 7) (lst acc i) (by kernel_rfl)) hi ?_
        intro h4 ha hs F
        refine GoX.from 11 ?_ ((D.step1 (i := 9) (o := lst acc i) (by kernel_rfl) F ha (.inr (by show 2 ≤ 9; decide))).at (hs.trans D.size))
        refine sx (by show 1 ≤ 2; decide) 1 0 (by kernel_rfl) (by kernel_rfl) ?_
        exact GoX.cut [0, 1, 2, 3, 4, 5, 6, 7, 8, 9, 10] (sC ⟨w0, _, b2, sa, b, t0, its, n0, tv, its'⟩ (i + 1) (acc ++ [.int (.ofNat ((n + 1) + 1)) (tk + 1)]) (some (kk, .int (.negSucc (n + 1)) tok)) _ (tk + 2)) (by kernel_rfl) (by kernel_rfl) (by kernel_rfl) rfl (by kernel_rfl) (by kernel_rfl) (by kernel_rfl) (by kernel_rfl) (by decide) (by kernel_rfl) (next _ (tk + 2) (kk, .int (.negSucc (n + 1)) tok) ((n + 1) + 1) (tk + 1)))
end
end Mine
end
section
namespace Mine
theorem Rep.to {V : Ws} {h₀ h : Heap} {M : List Nat} {T T' : LT} {nx nx' : Nat} (D : Rep V h₀ M T nx h) (e : T = T') (en : nx = nx') : Rep V h₀ M T' nx' h := e ▸ en ▸ D
theorem GoX.doneT {V : VB} {S : SX} (f : Flow) (T : LT) (nx tk : Nat) (hκ : S.κ = []) (e : S.t = .pure (.done f)) (eT : S.T = T) (en : S.nx = nx) (et : S.tk = tk) (h : ∀ h', Rep V.toWs V.h₀ V.M T nx h' → V.R₀ (.ok f) ⟨h', #[], V.d, tk, V.os⟩) : GoX V S := by
  subst eT en et
  exact GoX.done f hκ e h
/-- an iterator at its end -/
noncomputable def litE (i : Nat) : Obj := ⟨.type "list_iterator", none, .fields ⟨[.none, .int (i : Int) 0]⟩, ⟨[]⟩⟩
noncomputable def TE (L : Lw) (i : Nat) (acc : List Value) (x : Option (Nat × Value)) (dd : Option Addr) (dt : Data) (sl : Array (Option Value)) : LT :=
  ((TC L i acc x).put 8 (L.b + 6) (litE i)).put 11 (L.b + 10) (excO dd dt sl)
theorem cells_snoc {vs : List Value} (h : Cells vs) (n u : Nat) : Cells (vs ++ [.int (.ofNat n) u]) := fun v hv => by
  rcases List.mem_append.mp hv with hv | hv
  · exact h v hv
  · exact ⟨n, u, by simpa using hv⟩
section
variable (L : Lw) (h₀ : Heap) (R₀ : Result → Shared → Prop) (d : Drawn) (os : OsState)
theorem comp_end (i : Nat) (acc : List Value) (x : Option (Nat × Value)) (p : Pos) (tk : Nat) (hx : L.its'.toArray[i]? = none)
    (next : ∀ dd dt sl h', Rep (wsL L.w) h₀ [349] (TE L i acc x dd dt sl) (L.b + 11) h' → R₀ (.ok .next) ⟨h', #[], d, tk, os⟩) : GoX (vb (VC L) h₀ R₀ d os) (sC L i acc x p tk) := by
  obtain ⟨w0, b1, b2, sa, b, t0, its, n0, tv, its'⟩ := L
  cases b1 <;> (
    refine sx (by show 1 ≤ 2; decide) 2 9 (by kernel_rfl) (by kernel_rfl) ?_
    refine GoX.call (.call (.builtin "list_iterator.__next__") ⟨[.ref (b + 6)], []⟩) none (by kernel_rfl) AX rfl (by kernel_rfl) ?_
    intro h1 D
    have hsz : h1.objs.size = b + 9 := D.size.trans (by kernel_rfl)
    refine c_next_end rfl (D.own 8 (b + 6) (litr (b + 5) i none ⟨[]⟩) (by kernel_rfl)) (lst_is (D.own 7 (b + 5) (lst its' 0) (by kernel_rfl))) hx ?_
    intro h2 d2 dt s2 he hit hs F
    dsimp only at he hs F
    rw [hsz] at he hs
    show MeanX _ _ _ (callK _ (.error (.ref (h1.objs.size + 1)))) _ _
    rw [hsz]
    have D1 := (D.step1 (i := 8) (o := litr (b + 5) i none ⟨[]⟩) (by kernel_rfl) F hit (.inr (by show 2 ≤ 8; decide))).at hs
    have D2 := (D.fresh D1 ((D.under).put (i := 8) (o := litr (b + 5) i none ⟨[]⟩) (by kernel_rfl)) (b := b + 10) (m := 11) (o := excO d2 dt s2) (by rw [← D.size, hsz]; exact Nat.le_succ _) (by rw [← D.size, hsz]; exact Nat.le_succ _) he (by show 1 ≤ 2; decide) (by show 2 ≤ 11; decide) (by kernel_rfl) (by kernel_rfl)).1
    refine GoX.from 12 ?_ D2
    refine sx (by show 1 ≤ 2; decide) 1 12 (by kernel_rfl) (by kernel_rfl) ?_
    exact GoX.doneT .next (TE ⟨w0, _, b2, sa, b, t0, its, n0, tv, its'⟩ i acc x d2 dt s2) (b + 11) tk (by kernel_rfl) (by kernel_rfl) (by kernel_rfl) (by kernel_rfl) (by kernel_rfl) fun h' D' => next d2 dt s2 h' D')
theorem comp_loop (hv : ∀ v ∈ L.its', ∃ k t, v = .int k t) (hl : L.its'.length ≤ 24)
    (next : ∀ i acc x dd dt sl tk h', Cells acc → acc.length ≤ 24 → Rep (wsL L.w) h₀ [349] (TE L i acc x dd dt sl) (L.b + 11) h' → R₀ (.ok .next) ⟨h', #[], d, tk, os⟩) :
    ∀ (r i : Nat) (acc : List Value) (x : Option (Nat × Value)) (p : Pos) (tk : Nat), i + r = L.its'.length → acc.length = i → Cells acc → GoX (vb (VC L) h₀ R₀ d os) (sC L i acc x p tk)
  | 0, i, acc, x, p, tk, hi, ha, hc => by
    refine comp_end L h₀ R₀ d os i acc x p tk ?_ fun dd dt sl h' D => next i acc x dd dt sl tk h' hc (by omega) D
    exact Array.getElem?_eq_none (by show L.its'.length ≤ i; omega)
  | r + 1, i, acc, x, p, tk, hi, ha, hc => by
    have hlt : i < L.its'.length := by omega
    obtain ⟨k, t, e⟩ := hv _ (List.getElem_mem hlt)
    refine comp_turn L h₀ R₀ d os i acc x p tk k t ?_ ?_ fun p' tk' x' n u => ?_
    · show L.its'.toArray[i]? = _
      rw [List.getElem?_toArray, List.getElem?_eq_getElem hlt, e]
    · rw [sizeLine_eq]; omega
    · refine comp_loop hv hl next r (i + 1) _ _ p' tk' (by omega) (by simp [ha]) ?_
      exact cells_snoc hc n u
theorem law_start (hI : L.its' = L.its.take 24) (hv : ∀ v ∈ L.its, ∃ k t, v = .int k t) (hn : L.its.length ≤ 63)
    (next : ∀ i acc x dd dt sl tk h', Cells acc → acc.length ≤ 24 → Rep (wsL L.w) h₀ [349] (TE L i acc x dd dt sl) (L.b + 11) h' →
      MeanX (vb (VL L.w L.sa) h₀ R₀ d os) (sL3 L).c (sL3 L).κ (callK (sL3 L).t (.ok .next)) (sL3 L).p ⟨h', #[], d, tk, os⟩) :
    GoX (vb (VL L.w L.sa) h₀ R₀ d os) (sL0 L) := by
  have loop := fun p tk => comp_loop L h₀ (fun r s' => MeanX (vb (VL L.w L.sa) h₀ R₀ d os) (sL3 L).c (sL3 L).κ (callK (sL3 L).t r) (sL3 L).p s') d os
    (fun v hv' => hv v (List.mem_of_mem_take (hI ▸ hv'))) (by rw [hI, List.length_take]; omega) next L.its'.length 0 [] none p tk (by omega) rfl (fun v hv' => by cases hv')
  clear next
  obtain ⟨w0, b1, b2, sa, b, t0, its, n0, tv, its'⟩ := L
  dsimp only at hI hn
  subst hI
  cases b1
  · refine sx (by show 1 ≤ 2; decide) 25 9463215844163538649088 (by kernel_rfl) (by kernel_rfl) ?_
    refine GoX.call (.call (.builtin "list.__getitem__") ⟨[.ref sa, .ref (b + 4)], []⟩) none (by kernel_rfl) AX rfl (by kernel_rfl) ?_
    intro h1 D
    have hsz : h1.objs.size = b + 5 := D.size.trans (by kernel_rfl)
    refine c_slice (vl := .none) (vu := .int 24 (t0 + 1)) (vs := .none) (lo := none) (hi := some 24) (st := none) (lst_is (D.own 1 sa (lst its n0) (by kernel_rfl))) ⟨_, D.own 6 (b + 4) ⟨.type "slice", none, .fields ⟨[.none, .int 24 (t0 + 1), .none]⟩, ⟨[]⟩⟩ (by kernel_rfl), rfl, rfl⟩ .none (.int _ _) .none (fun e => nomatch e) ?_ (by show its.length ≤ _; rw [sizeLine_eq]; omega)
    have e24 : slicePick its.toArray none (some 24) none = (its.take 24).toArray := slicePick_upto' its.toArray 24
    show MeanX _ _ _ (callK _ (.ok (.ret (.ref h1.objs.size)))) _ ⟨h1.push _, _, _, _, _⟩
    rw [hsz, e24]
    refine GoX.from (V := vb (VL _ sa) h₀ R₀ d os) 8 (T := (sL2 ⟨w0, false, b2, sa, b, t0, its, n0, tv, its.take 24⟩).T) (nx := b + 6) ?_ ((D.alloc (m := 7) (o := lst (its.take 24) 0) rfl (by show 2 ≤ 7; decide) (by show ¬ 7 < 1; decide) (by kernel_rfl) (by kernel_rfl)).to (by kernel_rfl) (by kernel_rfl))
    refine sx (by show 1 ≤ 2; decide) 13 1210060808 (by kernel_rfl) (by kernel_rfl) ?_
    refine GoX.in (by kernel_rfl) ?_
    cases b2
    · refine sx (by show 1 ≤ 2; decide) 12 1210323465 (by kernel_rfl) (by kernel_rfl) ?_
      exact GoX.cut [0, 1, 2, 3, 4, 5, 6, 7, 8, 9, 10] (sC ⟨w0, false, false, sa, b, t0, its, n0, tv, its.take 24⟩ 0 [] none _ (t0 + 2)) (by kernel_rfl) (by kernel_rfl) (by kernel_rfl) rfl (by kernel_rfl) (by kernel_rfl) (by kernel_rfl) (by kernel_rfl) (by decide) (by kernel_rfl) (loop _ _)
    · refine sx (by show 1 ≤ 2; decide) 2 0 (by kernel_rfl) (by kernel_rfl) ?_
      exact GoX.cut [0, 1, 2, 3, 4, 5, 6, 7, 8, 9, 10] (sC ⟨w0, false, true, sa, b, t0, its, n0, tv, its.take 24⟩ 0 [] none _ (t0 + 2)) (by kernel_rfl) (by kernel_rfl) (by kernel_rfl) rfl (by kernel_rfl) (by kernel_rfl) (by kernel_rfl) (by kernel_rfl) (by decide) (by kernel_rfl) (loop _ _)
  · refine sx (by show 1 ≤ 2; decide) 25 9463215844163538649088 (by kernel_rfl) (by kernel_rfl) ?_
    refine GoX.call (.call (.builtin "list.__getitem__") ⟨[.ref sa, .ref (b + 4)], []⟩) none (by kernel_rfl) AX rfl (by kernel_rfl) ?_
    intro h1 D
    have hsz : h1.objs.size = b + 5 := D.size.trans (by kernel_rfl)
    refine c_slice (vl := .none) (vu := .int 24 (t0 + 1)) (vs := .none) (lo := none) (hi := some 24) (st := none) (lst_is (D.own 1 sa (lst its n0) (by kernel_rfl))) ⟨_, D.own 6 (b + 4) ⟨.type "slice", none, .fields ⟨[.none, .int 24 (t0 + 1), .none]⟩, ⟨[]⟩⟩ (by kernel_rfl), rfl, rfl⟩ .none (.int _ _) .none (fun e => nomatch e) ?_ (by show its.length ≤ _; rw [sizeLine_eq]; omega)
    have e24 : slicePick its.toArray none (some 24) none = (its.take 24).toArray := slicePick_upto' its.toArray 24
    show MeanX _ _ _ (callK _ (.ok (.ret (.ref h1.objs.size)))) _ ⟨h1.push _, _, _, _, _⟩
    rw [hsz, e24]
    refine GoX.from (V := vb (VL _ sa) h₀ R₀ d os) 8 (T := (sL2 ⟨w0, true, b2, sa, b, t0, its, n0, tv, its.take 24⟩).T) (nx := b + 6) ?_ ((D.alloc (m := 7) (o := lst (its.take 24) 0) rfl (by show 2 ≤ 7; decide) (by show ¬ 7 < 1; decide) (by kernel_rfl) (by kernel_rfl)).to (by kernel_rfl) (by kernel_rfl))
    refine sx (by show 1 ≤ 2; decide) 13 1210060808 (by kernel_rfl) (by kernel_rfl) ?_
    refine GoX.in (by kernel_rfl) ?_
    cases b2
    · refine sx (by show 1 ≤ 2; decide) 12 1210323465 (by kernel_rfl) (by kernel_rfl) ?_
      exact GoX.cut [0, 1, 2, 3, 4, 5, 6, 7, 8, 9, 10] (sC ⟨w0, true, false, sa, b, t0, its, n0, tv, its.take 24⟩ 0 [] none _ (t0 + 2)) (by kernel_rfl) (by kernel_rfl) (by kernel_rfl) rfl (by kernel_rfl) (by kernel_rfl) (by kernel_rfl) (by kernel_rfl) (by decide) (by kernel_rfl) (loop _ _)
    · refine sx (by show 1 ≤ 2; decide) 2 0 (by kernel_rfl) (by kernel_rfl) ?_
      exact GoX.cut [0, 1, 2, 3, 4, 5, 6, 7, 8, 9, 10] (sC ⟨w0, true, true, sa, b, t0, its, n0, tv, its.take 24⟩ 0 [] none _ (t0 + 2)) (by kernel_rfl) (by kernel_rfl) (by kernel_rfl) rfl (by kernel_rfl) (by kernel_rfl) (by kernel_rfl) (by kernel_rfl) (by decide) (by kernel_rfl) (loop _ _)
end
end Mine
end
section
namespace Mine
/-- the World's attributes -/
noncomputable def wD (P : Params) (b u : Nat) (mi mk : Value) : Obj := ⟨.type "dict", none, .dict ⟨[⟨kh P ⟨⟨[119, 105, 100, 116, 104]⟩⟩, .str ⟨⟨[119, 105, 100, 116, 104]⟩⟩ (u+7), .int 32 (520)⟩, ⟨kh P ⟨⟨[109, 111, 115, 116, 95, 115, 116, 101, 112, 115]⟩⟩, .str ⟨⟨[109, 111, 115, 116, 95, 115, 116, 101, 112, 115]⟩⟩ (u+9), .int 5000 (521)⟩, ⟨kh P ⟨⟨[109, 111, 115, 116, 95, 100, 101, 112, 116, 104]⟩⟩, .str ⟨⟨[109, 111, 115, 116, 95, 100, 101, 112, 116, 104]⟩⟩ (u+11), .int 40 (522)⟩, ⟨kh P ⟨⟨[109, 111, 115, 116, 95, 108, 101, 110, 103, 116, 104]⟩⟩, .str ⟨⟨[109, 111, 115, 116, 95, 108, 101, 110, 103, 116, 104]⟩⟩ (u+13), .int 5000 (523)⟩, ⟨kh P ⟨⟨[109, 111, 115, 116, 95, 105, 116, 101, 109, 115]⟩⟩, .str ⟨⟨[109, 111, 115, 116, 95, 105, 116, 101, 109, 115]⟩⟩ (u+16), mi⟩, ⟨kh P ⟨⟨[115, 116, 111, 114, 101]⟩⟩, .str ⟨⟨[115, 116, 111, 114, 101]⟩⟩ (u+18), .ref (b+34)⟩, ⟨kh P ⟨⟨[102, 117, 110, 99, 116, 105, 111, 110, 115]⟩⟩, .str ⟨⟨[102, 117, 110, 99, 116, 105, 111, 110, 115]⟩⟩ (u+20), .ref (b+16)⟩, ⟨kh P ⟨⟨[108, 97, 98, 101, 108, 115]⟩⟩, .str ⟨⟨[108, 97, 98, 101, 108, 115]⟩⟩ (u+22), .ref (b+17)⟩, ⟨kh P ⟨⟨[107, 101, 121, 119, 111, 114, 100, 115]⟩⟩, .str ⟨⟨[107, 101, 121, 119, 111, 114, 100, 115]⟩⟩ (u+24), .ref (b+18)⟩, ⟨kh P ⟨⟨[111, 112, 115, 121, 110, 115]⟩⟩, .str ⟨⟨[111, 112, 115, 121, 110, 115]⟩⟩ (u+26), .ref (b+19)⟩, ⟨kh P ⟨⟨[105, 110, 112, 117, 116, 115]⟩⟩, .str ⟨⟨[105, 110, 112, 117, 116, 115]⟩⟩ (u+28), .ref (b+20)⟩, ⟨kh P ⟨⟨[111, 117, 116, 112, 117, 116, 115]⟩⟩, .str ⟨⟨[111, 117, 116, 112, 117, 116, 115]⟩⟩ (u+30), .ref (b+21)⟩, ⟨kh P ⟨⟨[116, 114, 97, 99, 101, 115]⟩⟩, .str ⟨⟨[116, 114, 97, 99, 101, 115]⟩⟩ (u+32), .ref (b+22)⟩, ⟨kh P ⟨⟨[114, 101, 97, 100, 95, 110, 97, 109, 101, 115]⟩⟩, .str ⟨⟨[114, 101, 97, 100, 95, 110, 97, 109, 101, 115]⟩⟩ (u+37), .ref (b+23)⟩, ⟨kh P ⟨⟨[119, 114, 105, 116, 101, 95, 110, 97, 109, 101, 115]⟩⟩, .str ⟨⟨[119, 114, 105, 116, 101, 95, 110, 97, 109, 101, 115]⟩⟩ (u+42), .ref (b+24)⟩, ⟨kh P ⟨⟨[116, 114, 97, 99, 101, 100]⟩⟩, .str ⟨⟨[116, 114, 97, 99, 101, 100]⟩⟩ (u+44), .ref (b+25)⟩, ⟨kh P ⟨⟨[115, 116, 101, 112, 115]⟩⟩, .str ⟨⟨[115, 116, 101, 112, 115]⟩⟩ (u+47), .int 0 (u+45)⟩, ⟨kh P ⟨⟨[100, 101, 112, 116, 104]⟩⟩, .str ⟨⟨[100, 101, 112, 116, 104]⟩⟩ (u+50), .int 0 (u+48)⟩, ⟨kh P ⟨⟨[110, 101, 115, 116, 101, 100]⟩⟩, .str ⟨⟨[110, 101, 115, 116, 101, 100]⟩⟩ (u+53), .int 0 (u+51)⟩, ⟨kh P ⟨⟨[97, 115, 105, 100, 101]⟩⟩, .str ⟨⟨[97, 115, 105, 100, 101]⟩⟩ (u+55), .ref (b+26)⟩, ⟨kh P ⟨⟨[109, 97, 100, 101]⟩⟩, .str ⟨⟨[109, 97, 100, 101]⟩⟩ (u+58), mk⟩, ⟨kh P ⟨⟨[104, 111, 108, 100, 101, 114, 115]⟩⟩, .str ⟨⟨[104, 111, 108, 100, 101, 114, 115]⟩⟩ (u+60), .ref (b+27)⟩, ⟨kh P ⟨⟨[101, 118, 97, 108, 117, 97, 116, 101]⟩⟩, .str ⟨⟨[101, 118, 97, 108, 117, 97, 116, 101]⟩⟩ (u+62), .none⟩, ⟨kh P ⟨⟨[109, 97, 107, 101, 95, 99, 111, 100, 101]⟩⟩, .str ⟨⟨[109, 97, 107, 101, 95, 99, 111, 100, 101]⟩⟩ (u+64), .none⟩, ⟨kh P ⟨⟨[109, 97, 116, 99, 104, 101, 114]⟩⟩, .str ⟨⟨[109, 97, 116, 99, 104, 101, 114]⟩⟩ (u+66), .none⟩, ⟨kh P ⟨⟨[107, 101, 112, 116, 95, 110, 97, 109, 101, 115]⟩⟩, .str ⟨⟨[107, 101, 112, 116, 95, 110, 97, 109, 101, 115]⟩⟩ (u+68), .ref (b+28)⟩]⟩ 26, ⟨[]⟩⟩
noncomputable def stD (P : Params) (u : Nat) : Obj := ⟨.type "dict", none, .dict ⟨[⟨kh P ⟨⟨[78]⟩⟩, .str ⟨⟨[78]⟩⟩ (u+71), .int 5 (u+72)⟩, ⟨kh P ⟨⟨[90]⟩⟩, .str ⟨⟨[90]⟩⟩ (u+73), .str ⟨⟨[]⟩⟩ (u+74)⟩, ⟨kh P ⟨⟨[65]⟩⟩, .str ⟨⟨[65]⟩⟩ (u+75), .str ⟨⟨[120]⟩⟩ (u+76)⟩]⟩ 3, ⟨[]⟩⟩
noncomputable def frO (P : Params) (sa t0 b u : Nat) (rows : Value) : Obj := ⟨.type "frame", none, .dict ⟨[⟨kh P ⟨⟨[115, 99, 114, 105, 112, 116]⟩⟩, .str ⟨⟨[115, 99, 114, 105, 112, 116]⟩⟩ t0, .ref (sa)⟩, ⟨kh P ⟨⟨[102, 101, 101, 100]⟩⟩, .str ⟨⟨[102, 101, 101, 100]⟩⟩ (u+69), .ref (b+11)⟩, ⟨kh P ⟨⟨[114, 111, 119, 115]⟩⟩, .str ⟨⟨[114, 111, 119, 115]⟩⟩ (u+70), rows⟩]⟩ 3, ⟨[]⟩⟩
noncomputable def lawEnv (b : Nat) : Env := ⟨fdS (st 40), b, 3, [(⟨⟨[119, 111, 114, 108, 100]⟩⟩, b + 3), (⟨⟨[118, 97, 108, 117, 101]⟩⟩, b + 2), (⟨⟨[116, 101, 120, 116]⟩⟩, b + 1)], ⟨⟨[108, 97, 119, 46, 60, 108, 111, 99, 97, 108, 115, 62, 46]⟩⟩, some 352, .ref 351, some b, 0⟩
noncomputable def cF (k : Nat) (it : Value) (b : Nat) : Code := match (fdB (st 40))[k]? with
  | some (.For t _ bd e _) => .forLoop t it bd e (lawEnv b)
  | _ => .builtin "" {}
noncomputable def cellO (v : Option Value) : Obj := ⟨.type "cell", none, .cell v, ⟨[]⟩⟩
noncomputable def instW (b : Nat) : Obj := ⟨.ref 256, some (b + 12), .plain, ⟨[]⟩⟩
noncomputable def ΓF (sa b : Nat) (c : Code) (p : Pos) : PySem.Ctx := ⟨c, none, none, [(.func (fdB (st 40)) (lawEnv b), p), (.builtin "claim.caller" {}, default)], none⟩
noncomputable def afterPoint (t : Sem PySem.Fin) : Sem PySem.Fin := match t with
  | .point _ k => k ()
  | t => t
/-- the law's tree from its statement k on -/
noncomputable def suf (k b : Nat) : Sem PySem.Fin := afterPoint (dX (.func ((fdB (st 40)).drop k) (lawEnv b)))
/-- what does not change in the first loop -/
structure Dw extends Lw where
  u : Nat
  acc : List Value
  na : Nat
noncomputable def TD0 (D : Dw) (turn : Int) (tu ia j m : Nat) : LT :=
  LT.of 0 [(349, tabO D.tv), (D.sa, lst D.its D.n0), (D.b, frO D.w.params D.sa D.t0 D.b D.u (.ref (D.b + 29))), (D.b + 1, cellO none), (D.b + 2, cellO none), (D.b + 3, cellO (some (.ref (D.b + 13)))),
    (D.b + 7, lst D.acc D.na), (D.b + 11, lst [.ref (D.b + 7), .int turn tu] 0), (D.b + 12, wD D.w.params D.b D.u (.int 20000 (D.u + 14)) (.int 0 (D.u + 56))), (D.b + 13, instW D.b),
    (D.b + 21, lst [] 0), (D.b + 34, stD D.w.params D.u), (D.b + 27, lst [] 0), (ia, rngI j m), (D.b + 29, lst [] 0)] .nil
theorem GoX.same {V : VB} {S : SX} {r : Result} {c : Code} {κ : KX} {t : Sem PySem.Fin} {p : Pos} {h : Heap} {T : LT} (m : Nat) {nx tk : Nat} (e : (S.c, S.κ, callK S.t r, S.p) = (c, κ, t, p)) (D : Rep V.toWs V.h₀ V.M T nx h)
    (G : GoX V ⟨c, κ, t, p, T, m, nx, tk⟩) : MeanX V S.c S.κ (callK S.t r) S.p ⟨h, #[], V.d, tk, V.os⟩ := by
  have e1 : S.c = c := congrArg (·.1) e
  have e2 : S.κ = κ := congrArg (·.2.1) e
  have e3 : callK S.t r = t := congrArg (·.2.2.1) e
  have e4 : S.p = p := congrArg (·.2.2.2) e
  rw [e1, e2, e3, e4]
  exact G h D
theorem GoX.inC {V : VB} {S : SX} (js : List Nat) (Γ' : PySem.Ctx) (c' : Code) (p' : Pos) (T' : LT) (m' nx' tk' : Nat)
    (e : (callN S.t, cOf S.t, (ctxX V.Γ S.κ S.c).enter (cOf S.t) none S.p, S.p, S.nx, S.tk) = (true, c', Γ', p', nx', tk'))
    (hl : T'.lt js.length = true) (hm : T'.rows js.length 0 = js.map S.T.get) (hn : js.Nodup) (hs : sameSide V.toWs js 0 = true)
    (h : GoX ⟨⟨V.toWs, Γ'⟩, V.h₀, V.M, fun r s' => MeanX V S.c S.κ (callK S.t r) S.p s', V.d, V.os⟩ ⟨c', [], dX c', p', T', m', nx', tk'⟩) : GoX V S := by
  have e1 : callN S.t = true := congrArg (·.1) e
  have e2 : cOf S.t = c' := congrArg (·.2.1) e
  have e3 : (ctxX V.Γ S.κ S.c).enter (cOf S.t) none S.p = Γ' := congrArg (·.2.2.1) e
  have e4 : S.p = p' := congrArg (·.2.2.2.1) e
  have e5 : S.nx = nx' := congrArg (·.2.2.2.2.1) e
  have e6 : S.tk = tk' := congrArg (·.2.2.2.2.2) e
  subst e2 e3 e4 e5 e6
  exact GoX.in e1 (GoX.cut js ⟨cOf S.t, [], dX (cOf S.t), S.p, T', m', S.nx, S.tk⟩ rfl rfl rfl rfl rfl rfl hl hm hn hs h)
section
variable (L : Lw) (h₀ : Heap) (R₀ : Result → Shared → Prop) (d : Drawn) (os : OsState)
noncomputable def pF1 : Pos := ⟨201, 16, 201, 45⟩
theorem law_to_for (i : Nat) (acc : List Value) (x : Option (Nat × Value)) (dd : Option Addr) (dt : Data) (sl : Array (Option Value)) (tk : Nat) (h : Heap) (hc : Cells acc) (hl : acc.length ≤ 24)
    (D : Rep (wsL L.w) h₀ [349] (TE L i acc x dd dt sl) (L.b + 11) h)
    (next : ∀ (D : Dw), D.toLw = L → Cells D.acc → D.acc.length ≤ 24 → ∀ (R₁ : Result → Shared → Prop) (turn : Int) (tu ia tk' nx m : Nat), 0 < m → m ≤ 3 → 0 ≤ turn → turn ≤ 1 →
      (∀ T' m' nx' tk'' h', Rep (wsL L.w) h₀ [349] T' nx' h' → GoX (vb (VL L.w L.sa) h₀ R₀ d os) ⟨.func (fdB (st 40)) (lawEnv L.b), [], suf 3 L.b, pF1, T', m', nx', tk''⟩ → R₁ (.ok .next) ⟨h', #[], d, tk'', os⟩) →
      GoX (vb ⟨wsL L.w, ΓF L.sa L.b (cF 2 (.ref ia) L.b) pF1⟩ h₀ R₁ d os) ⟨cF 2 (.ref ia) L.b, [], dX (cF 2 (.ref ia) L.b), pF1, TD0 D turn tu ia 0 m, 15, nx, tk'⟩) :
    MeanX (vb (VL L.w L.sa) h₀ R₀ d os) (sL3 L).c (sL3 L).κ (callK (sL3 L).t (.ok .next)) (sL3 L).p ⟨h, #[], d, tk, os⟩ := by
  obtain ⟨w0, b1, b2, sa, b, t0, its, n0, tv, its'⟩ := L
  cases b1
  · rcases x with _ | ⟨kk, v⟩
    · refine GoX.from 12 (T := TE ⟨w0, false, b2, sa, b, t0, its, n0, tv, its'⟩ i acc none dd dt sl) (nx := b + 11) ?_ D
      refine sx (by show 1 ≤ 2; decide) 1028 2137114934643739667423138332445934180415002237682244196568383504995251726846442797433361744475230363594735407010951373080941178675498114330959159046936350433580448334390390800844994825240294490623159489404309130410551550903305472689612912115529731982390782862388931023651960327626517530727556961080608087121674295639176973542221807948595951310965765480870217931583904265961123572704844228004921654232559872434979219356580660817121496850570585791092101288496352892566528578089089529208488606604599868389857108184244739313804753294559733050058643266947277521960791264524934860763107818326986864637337834294631948916948773005334606851956557492680973324198117895189935722604232631774372042178071593542395355494853652506197859723804413200319856079963532080892621600543895268790816272858911876708307964541573521834338781429120026171589656444411951975417238363498964917963393045411282232392497403471306012747486883008141909156955991456955580867512229876853650546220892718229746158827966287765499535419066609797203085166064358053240242537500823277571665127848415127556493434659682098566927840168067212348884840997049840288866469218843222652630335854339478173247012069995458819405572719826362200624782492796574968863830816454678325163591237619047204231862562414180358239266194313781190539736597429930482291149048133876143261269242966597433275375275409637465049489530334085161707061488150684142227778391932155340908242855934887020574317252828494342310664687525616509560344508326384936491484126786671836391513110593906324731985207515255753875933478545431206326746105184958809786286705399761353295568555767272184487039703193971599605771 (by kernel_rfl) (by kernel_rfl) ?_
      refine GoX.call (.call (.ref 326) ⟨[.ref (b + 11), .int (.ofNat 3) (tk + 83)], []⟩) none (by kernel_rfl) AX rfl (by kernel_rfl) ?_
      intro h2 D
      have ne : b + 11 ≠ b + 7 := by omega
      refine next_spec _ AX h2 (b + 11) (b + 7) 0 2 tk _ 0 i _ acc d os _ rfl (by show 500 ≤ 600; decide) D.known (D.own 12 (b + 11) (lst [.ref (b + 7), .int 0 tk] 0) (by kernel_rfl)) (D.own 9 (b + 7) (lst acc i) (by kernel_rfl)) ne (D.off 12 (b + 11) (lst [.ref (b + 7), .int 0 tk] 0) (by kernel_rfl)) (D.off 9 (b + 7) (lst acc i) (by kernel_rfl)) hc (by omega) (by decide) (by decide) ?_
      intro r tr tu' h3 t3 hr hf3 F
      refine GoX.from 36 ?_ (D.step1 (i := 12) (o := lst [.ref (b + 7), .int 0 tk] 0) (by kernel_rfl) F hf3 (.inr (by show 2 ≤ 12; decide)))
      rcases (by omega : r = 0 ∨ r = 1 ∨ r = 2) with rfl | rfl | rfl
      · refine sx (by show 1 ≤ 2; decide) 38 47131357072988401659809122853 (by kernel_rfl) (by kernel_rfl) ?_
        refine GoX.inC [0, 1, 2, 3, 4, 5, 9, 12, 13, 14, 22, 35, 28, 37, 30] (ΓF sa b (cF 2 (.ref (h3.objs.size + 1)) b) pF1) (cF 2 (.ref (h3.objs.size + 1)) b) pF1 (TD0 ⟨⟨w0, false, b2, sa, b, t0, its, n0, tv, its'⟩, tk, acc, i⟩ 1 tu' (h3.objs.size + 1) 0 1) 15 (h3.objs.size + 2) (t3 + 3) (by kernel_rfl) (by kernel_rfl) (by kernel_rfl) (by decide) (by kernel_rfl) ?_
        exact next ⟨⟨w0, false, b2, sa, b, t0, its, n0, tv, its'⟩, tk, acc, i⟩ rfl hc hl _ 1 tu' _ _ _ 1 (by decide) (by decide) (by decide) (by decide) fun T' m' nx' tk'' h' D' G => GoX.same m' (by kernel_rfl) D' G
      · refine sx (by show 1 ≤ 2; decide) 38 47131357072988401659809122853 (by kernel_rfl) (by kernel_rfl) ?_
        refine GoX.inC [0, 1, 2, 3, 4, 5, 9, 12, 13, 14, 22, 35, 28, 37, 30] (ΓF sa b (cF 2 (.ref (h3.objs.size + 1)) b) pF1) (cF 2 (.ref (h3.objs.size + 1)) b) pF1 (TD0 ⟨⟨w0, false, b2, sa, b, t0, its, n0, tv, its'⟩, tk, acc, i⟩ 1 tu' (h3.objs.size + 1) 0 2) 15 (h3.objs.size + 2) (t3 + 3) (by kernel_rfl) (by kernel_rfl) (by kernel_rfl) (by decide) (by kernel_rfl) ?_
        exact next ⟨⟨w0, false, b2, sa, b, t0, its, n0, tv, its'⟩, tk, acc, i⟩ rfl hc hl _ 1 tu' _ _ _ 2 (by decide) (by decide) (by decide) (by decide) fun T' m' nx' tk'' h' D' G => GoX.same m' (by kernel_rfl) D' G
      · refine sx (by show 1 ≤ 2; decide) 38 47131357072988401659809122853 (by kernel_rfl) (by kernel_rfl) ?_
        refine GoX.inC [0, 1, 2, 3, 4, 5, 9, 12, 13, 14, 22, 35, 28, 37, 30] (ΓF sa b (cF 2 (.ref (h3.objs.size + 1)) b) pF1) (cF 2 (.ref (h3.objs.size + 1)) b) pF1 (TD0 ⟨⟨w0, false, b2, sa, b, t0, its, n0, tv, its'⟩, tk, acc, i⟩ 1 tu' (h3.objs.size + 1) 0 3) 15 (h3.objs.size + 2) (t3 + 3) (by kernel_rfl) (by kernel_rfl) (by kernel_rfl) (by decide) (by kernel_rfl) ?_
        exact next ⟨⟨w0, false, b2, sa, b, t0, its, n0, tv, its'⟩, tk, acc, i⟩ rfl hc hl _ 1 tu' _ _ _ 3 (by decide) (by decide) (by decide) (by decide) fun T' m' nx' tk'' h' D' G => GoX.same m' (by kernel_rfl) D' G
    · refine GoX.from 12 (T := TE ⟨w0, false, b2, sa, b, t0, its, n0, tv, its'⟩ i acc (some (kk, v)) dd dt sl) (nx := b + 11) ?_ D
      refine sx (by show 1 ≤ 2; decide) 1032 560231857427248491376971175020706969790710346594974222665222325533475268682433900690371181143714788434178318535478836744930244342709777683174957789200082648060513048170434606096710323467791758949917521190403212682343625759996109832745887233613426060791849382678083934264219488125325811575044692005514926390424186556036408552252193622876737060461809626217242409457130999896112777843138685306122182127140175199595192479011480749243497670395975641620047800171587932668960067574586285544830037289756227899190701767850652942678033247649066660674572980570627118716889665247624524139884135927509644643490289233331997616884619150710435178599299807361361071098591417516670510066363959023860984624728399817577688070842915882584731739436984093984648352225960153813515396852978881341899741032326595007822683056786249307740905518955240140725198898963926738643776533561072659454595706496295169528298839335582043405677201459286352634041071424492163790933125988837923368788529700727618577059798394539999110212895797358678005557772775077508610139750615817275746583274694935198169414935427704046728731733017811313986067758330633332684611706904437759051126762199968166247664732076889556754254455066161892720582981791665348637840065548695194871684461394407510306157379561502895830274197242191856412848710596671696349730976074006827699082164428235717548539976196984003637933383439898420630535926749772943780158738774662929687050415226195023121433821925472820870686883846715214282186950790711852791623614932365301879016812863528979590541530238879204344052705799813518151318530997605842232616342100315040198313523483055799530170535954080491007055238667 (by kernel_rfl) (by kernel_rfl) ?_
      refine GoX.call (.call (.ref 326) ⟨[.ref (b + 11), .int (.ofNat 3) (tk + 83)], []⟩) none (by kernel_rfl) AX rfl (by kernel_rfl) ?_
      intro h2 D
      have ne : b + 11 ≠ b + 7 := by omega
      refine next_spec _ AX h2 (b + 11) (b + 7) 0 2 tk _ 0 i _ acc d os _ rfl (by show 500 ≤ 600; decide) D.known (D.own 12 (b + 11) (lst [.ref (b + 7), .int 0 tk] 0) (by kernel_rfl)) (D.own 9 (b + 7) (lst acc i) (by kernel_rfl)) ne (D.off 12 (b + 11) (lst [.ref (b + 7), .int 0 tk] 0) (by kernel_rfl)) (D.off 9 (b + 7) (lst acc i) (by kernel_rfl)) hc (by omega) (by decide) (by decide) ?_
      intro r tr tu' h3 t3 hr hf3 F
      refine GoX.from 36 ?_ (D.step1 (i := 12) (o := lst [.ref (b + 7), .int 0 tk] 0) (by kernel_rfl) F hf3 (.inr (by show 2 ≤ 12; decide)))
      rcases (by omega : r = 0 ∨ r = 1 ∨ r = 2) with rfl | rfl | rfl
      · refine sx (by show 1 ≤ 2; decide) 38 47131357072988401659809122853 (by kernel_rfl) (by kernel_rfl) ?_
        refine GoX.inC [0, 1, 2, 3, 4, 5, 9, 12, 13, 14, 22, 35, 28, 37, 30] (ΓF sa b (cF 2 (.ref (h3.objs.size + 1)) b) pF1) (cF 2 (.ref (h3.objs.size + 1)) b) pF1 (TD0 ⟨⟨w0, false, b2, sa, b, t0, its, n0, tv, its'⟩, tk, acc, i⟩ 1 tu' (h3.objs.size + 1) 0 1) 15 (h3.objs.size + 2) (t3 + 3) (by kernel_rfl) (by kernel_rfl) (by kernel_rfl) (by decide) (by kernel_rfl) ?_
        exact next ⟨⟨w0, false, b2, sa, b, t0, its, n0, tv, its'⟩, tk, acc, i⟩ rfl hc hl _ 1 tu' _ _ _ 1 (by decide) (by decide) (by decide) (by decide) fun T' m' nx' tk'' h' D' G => GoX.same m' (by kernel_rfl) D' G
      · refine sx (by show 1 ≤ 2; decide) 38 47131357072988401659809122853 (by kernel_rfl) (by kernel_rfl) ?_
        refine GoX.inC [0, 1, 2, 3, 4, 5, 9, 12, 13, 14, 22, 35, 28, 37, 30] (ΓF sa b (cF 2 (.ref (h3.objs.size + 1)) b) pF1) (cF 2 (.ref (h3.objs.size + 1)) b) pF1 (TD0 ⟨⟨w0, false, b2, sa, b, t0, its, n0, tv, its'⟩, tk, acc, i⟩ 1 tu' (h3.objs.size + 1) 0 2) 15 (h3.objs.size + 2) (t3 + 3) (by kernel_rfl) (by kernel_rfl) (by kernel_rfl) (by decide) (by kernel_rfl) ?_
        exact next ⟨⟨w0, false, b2, sa, b, t0, its, n0, tv, its'⟩, tk, acc, i⟩ rfl hc hl _ 1 tu' _ _ _ 2 (by decide) (by decide) (by decide) (by decide) fun T' m' nx' tk'' h' D' G => GoX.same m' (by kernel_rfl) D' G
      · refine sx (by show 1 ≤ 2; decide) 38 47131357072988401659809122853 (by kernel_rfl) (by kernel_rfl) ?_
        refine GoX.inC [0, 1, 2, 3, 4, 5, 9, 12, 13, 14, 22, 35, 28, 37, 30] (ΓF sa b (cF 2 (.ref (h3.objs.size + 1)) b) pF1) (cF 2 (.ref (h3.objs.size + 1)) b) pF1 (TD0 ⟨⟨w0, false, b2, sa, b, t0, its, n0, tv, its'⟩, tk, acc, i⟩ 1 tu' (h3.objs.size + 1) 0 3) 15 (h3.objs.size + 2) (t3 + 3) (by kernel_rfl) (by kernel_rfl) (by kernel_rfl) (by decide) (by kernel_rfl) ?_
        exact next ⟨⟨w0, false, b2, sa, b, t0, its, n0, tv, its'⟩, tk, acc, i⟩ rfl hc hl _ 1 tu' _ _ _ 3 (by decide) (by decide) (by decide) (by decide) fun T' m' nx' tk'' h' D' G => GoX.same m' (by kernel_rfl) D' G
  · rcases x with _ | ⟨kk, v⟩
    · refine GoX.from 12 (T := TE ⟨w0, true, b2, sa, b, t0, its, n0, tv, its'⟩ i acc none dd dt sl) (nx := b + 11) ?_ D
      refine sx (by show 1 ≤ 2; decide) 1028 2137114934643739667423138332445934180415002237682244196568383504995251726846442797433361744475230363594735407010951373080941178675498114330959159046936350433580448334390390800844994825240294490623159489404309130410551550903305472689612912115529731982390782862388931023651960327626517530727556961080608087121674295639176973542221807948595951310965765480870217931583904265961123572704844228004921654232559872434979219356580660817121496850570585791092101288496352892566528578089089529208488606604599868389857108184244739313804753294559733050058643266947277521960791264524934860763107818326986864637337834294631948916948773005334606851956557492680973324198117895189935722604232631774372042178071593542395355494853652506197859723804413200319856079963532080892621600543895268790816272858911876708307964541573521834338781429120026171589656444411951975417238363498964917963393045411282232392497403471306012747486883008141909156955991456955580867512229876853650546220892718229746158827966287765499535419066609797203085166064358053240242537500823277571665127848415127556493434659682098566927840168067212348884840997049840288866469218843222652630335854339478173247012069995458819405572719826362200624782492796574968863830816454678325163591237619047204231862562414180358239266194313781190539736597429930482291149048133876143261269242966597433275375275409637465049489530334085161707061488150684142227778391932155340908242855934887020574317252828494342310664687525616509560344508326384936491484126786671836391513110593906324731985207515255753875933478545431206326746105184958809786286705399761353295568555767272184487039703193971599605771 (by kernel_rfl) (by kernel_rfl) ?_
      refine GoX.call (.call (.ref 326) ⟨[.ref (b + 11), .int (.ofNat 3) (tk + 83)], []⟩) none (by kernel_rfl) AX rfl (by kernel_rfl) ?_
      intro h2 D
      have ne : b + 11 ≠ b + 7 := by omega
      refine next_spec _ AX h2 (b + 11) (b + 7) 0 2 tk _ 0 i _ acc d os _ rfl (by show 500 ≤ 600; decide) D.known (D.own 12 (b + 11) (lst [.ref (b + 7), .int 0 tk] 0) (by kernel_rfl)) (D.own 9 (b + 7) (lst acc i) (by kernel_rfl)) ne (D.off 12 (b + 11) (lst [.ref (b + 7), .int 0 tk] 0) (by kernel_rfl)) (D.off 9 (b + 7) (lst acc i) (by kernel_rfl)) hc (by omega) (by decide) (by decide) ?_
      intro r tr tu' h3 t3 hr hf3 F
      refine GoX.from 36 ?_ (D.step1 (i := 12) (o := lst [.ref (b + 7), .int 0 tk] 0) (by kernel_rfl) F hf3 (.inr (by show 2 ≤ 12; decide)))
      rcases (by omega : r = 0 ∨ r = 1 ∨ r = 2) with rfl | rfl | rfl
      · refine sx (by show 1 ≤ 2; decide) 38 47131357072988401659809122853 (by kernel_rfl) (by kernel_rfl) ?_
        refine GoX.inC [0, 1, 2, 3, 4, 5, 9, 12, 13, 14, 22, 35, 28, 37, 30] (ΓF sa b (cF 2 (.ref (h3.objs.size + 1)) b) pF1) (cF 2 (.ref (h3.objs.size + 1)) b) pF1 (TD0 ⟨⟨w0, true, b2, sa, b, t0, its, n0, tv, its'⟩, tk, acc, i⟩ 1 tu' (h3.objs.size + 1) 0 1) 15 (h3.objs.size + 2) (t3 + 3) (by kernel_rfl) (by kernel_rfl) (by kernel_rfl) (by decide) (by kernel_rfl) ?_
        exact next ⟨⟨w0, true, b2, sa, b, t0, its, n0, tv, its'⟩, tk, acc, i⟩ rfl hc hl _ 1 tu' _ _ _ 1 (by decide) (by decide) (by decide) (by decide) fun T' m' nx' tk'' h' D' G => GoX.same m' (by kernel_rfl) D' G
      · refine sx (by show 1 ≤ 2; decide) 38 47131357072988401659809122853 (by kernel_rfl) (by kernel_rfl) ?_
        refine GoX.inC [0, 1, 2, 3, 4, 5, 9, 12, 13, 14, 22, 35, 28, 37, 30] (ΓF sa b (cF 2 (.ref (h3.objs.size + 1)) b) pF1) (cF 2 (.ref (h3.objs.size + 1)) b) pF1 (TD0 ⟨⟨w0, true, b2, sa, b, t0, its, n0, tv, its'⟩, tk, acc, i⟩ 1 tu' (h3.objs.size + 1) 0 2) 15 (h3.objs.size + 2) (t3 + 3) (by kernel_rfl) (by kernel_rfl) (by kernel_rfl) (by decide) (by kernel_rfl) ?_
        exact next ⟨⟨w0, true, b2, sa, b, t0, its, n0, tv, its'⟩, tk, acc, i⟩ rfl hc hl _ 1 tu' _ _ _ 2 (by decide) (by decide) (by decide) (by decide) fun T' m' nx' tk'' h' D' G => GoX.same m' (by kernel_rfl) D' G
      · refine sx (by show 1 ≤ 2; decide) 38 47131357072988401659809122853 (by kernel_rfl) (by kernel_rfl) ?_
        refine GoX.inC [0, 1, 2, 3, 4, 5, 9, 12, 13, 14, 22, 35, 28, 37, 30] (ΓF sa b (cF 2 (.ref (h3.objs.size + 1)) b) pF1) (cF 2 (.ref (h3.objs.size + 1)) b) pF1 (TD0 ⟨⟨w0, true, b2, sa, b, t0, its, n0, tv, its'⟩, tk, acc, i⟩ 1 tu' (h3.objs.size + 1) 0 3) 15 (h3.objs.size + 2) (t3 + 3) (by kernel_rfl) (by kernel_rfl) (by kernel_rfl) (by decide) (by kernel_rfl) ?_
        exact next ⟨⟨w0, true, b2, sa, b, t0, its, n0, tv, its'⟩, tk, acc, i⟩ rfl hc hl _ 1 tu' _ _ _ 3 (by decide) (by decide) (by decide) (by decide) fun T' m' nx' tk'' h' D' G => GoX.same m' (by kernel_rfl) D' G
    · refine GoX.from 12 (T := TE ⟨w0, true, b2, sa, b, t0, its, n0, tv, its'⟩ i acc (some (kk, v)) dd dt sl) (nx := b + 11) ?_ D
      refine sx (by show 1 ≤ 2; decide) 1032 560231857427248491376971175020706969790710346594974222665222325533475268682433900690371181143714788434178318535478836744930244342709777683174957789200082648060513048170434606096710323467791758949917521190403212682343625759996109832745887233613426060791849382678083934264219488125325811575044692005514926390424186556036408552252193622876737060461809626217242409457130999896112777843138685306122182127140175199595192479011480749243497670395975641620047800171587932668960067574586285544830037289756227899190701767850652942678033247649066660674572980570627118716889665247624524139884135927509644643490289233331997616884619150710435178599299807361361071098591417516670510066363959023860984624728399817577688070842915882584731739436984093984648352225960153813515396852978881341899741032326595007822683056786249307740905518955240140725198898963926738643776533561072659454595706496295169528298839335582043405677201459286352634041071424492163790933125988837923368788529700727618577059798394539999110212895797358678005557772775077508610139750615817275746583274694935198169414935427704046728731733017811313986067758330633332684611706904437759051126762199968166247664732076889556754254455066161892720582981791665348637840065548695194871684461394407510306157379561502895830274197242191856412848710596671696349730976074006827699082164428235717548539976196984003637933383439898420630535926749772943780158738774662929687050415226195023121433821925472820870686883846715214282186950790711852791623614932365301879016812863528979590541530238879204344052705799813518151318530997605842232616342100315040198313523483055799530170535954080491007055238667 (by kernel_rfl) (by kernel_rfl) ?_
      refine GoX.call (.call (.ref 326) ⟨[.ref (b + 11), .int (.ofNat 3) (tk + 83)], []⟩) none (by kernel_rfl) AX rfl (by kernel_rfl) ?_
      intro h2 D
      have ne : b + 11 ≠ b + 7 := by omega
      refine next_spec _ AX h2 (b + 11) (b + 7) 0 2 tk _ 0 i _ acc d os _ rfl (by show 500 ≤ 600; decide) D.known (D.own 12 (b + 11) (lst [.ref (b + 7), .int 0 tk] 0) (by kernel_rfl)) (D.own 9 (b + 7) (lst acc i) (by kernel_rfl)) ne (D.off 12 (b + 11) (lst [.ref (b + 7), .int 0 tk] 0) (by kernel_rfl)) (D.off 9 (b + 7) (lst acc i) (by kernel_rfl)) hc (by omega) (by decide) (by decide) ?_
      intro r tr tu' h3 t3 hr hf3 F
      refine GoX.from 36 ?_ (D.step1 (i := 12) (o := lst [.ref (b + 7), .int 0 tk] 0) (by kernel_rfl) F hf3 (.inr (by show 2 ≤ 12; decide)))
      rcases (by omega : r = 0 ∨ r = 1 ∨ r = 2) with rfl | rfl | rfl
      · refine sx (by show 1 ≤ 2; decide) 38 47131357072988401659809122853 (by kernel_rfl) (by kernel_rfl) ?_
        refine GoX.inC [0, 1, 2, 3, 4, 5, 9, 12, 13, 14, 22, 35, 28, 37, 30] (ΓF sa b (cF 2 (.ref (h3.objs.size + 1)) b) pF1) (cF 2 (.ref (h3.objs.size + 1)) b) pF1 (TD0 ⟨⟨w0, true, b2, sa, b, t0, its, n0, tv, its'⟩, tk, acc, i⟩ 1 tu' (h3.objs.size + 1) 0 1) 15 (h3.objs.size + 2) (t3 + 3) (by kernel_rfl) (by kernel_rfl) (by kernel_rfl) (by decide) (by kernel_rfl) ?_
        exact next ⟨⟨w0, true, b2, sa, b, t0, its, n0, tv, its'⟩, tk, acc, i⟩ rfl hc hl _ 1 tu' _ _ _ 1 (by decide) (by decide) (by decide) (by decide) fun T' m' nx' tk'' h' D' G => GoX.same m' (by kernel_rfl) D' G
      · refine sx (by show 1 ≤ 2; decide) 38 47131357072988401659809122853 (by kernel_rfl) (by kernel_rfl) ?_
        refine GoX.inC [0, 1, 2, 3, 4, 5, 9, 12, 13, 14, 22, 35, 28, 37, 30] (ΓF sa b (cF 2 (.ref (h3.objs.size + 1)) b) pF1) (cF 2 (.ref (h3.objs.size + 1)) b) pF1 (TD0 ⟨⟨w0, true, b2, sa, b, t0, its, n0, tv, its'⟩, tk, acc, i⟩ 1 tu' (h3.objs.size + 1) 0 2) 15 (h3.objs.size + 2) (t3 + 3) (by kernel_rfl) (by kernel_rfl) (by kernel_rfl) (by decide) (by kernel_rfl) ?_
        exact next ⟨⟨w0, true, b2, sa, b, t0, its, n0, tv, its'⟩, tk, acc, i⟩ rfl hc hl _ 1 tu' _ _ _ 2 (by decide) (by decide) (by decide) (by decide) fun T' m' nx' tk'' h' D' G => GoX.same m' (by kernel_rfl) D' G
      · refine sx (by show 1 ≤ 2; decide) 38 47131357072988401659809122853 (by kernel_rfl) (by kernel_rfl) ?_
        refine GoX.inC [0, 1, 2, 3, 4, 5, 9, 12, 13, 14, 22, 35, 28, 37, 30] (ΓF sa b (cF 2 (.ref (h3.objs.size + 1)) b) pF1) (cF 2 (.ref (h3.objs.size + 1)) b) pF1 (TD0 ⟨⟨w0, true, b2, sa, b, t0, its, n0, tv, its'⟩, tk, acc, i⟩ 1 tu' (h3.objs.size + 1) 0 3) 15 (h3.objs.size + 2) (t3 + 3) (by kernel_rfl) (by kernel_rfl) (by kernel_rfl) (by decide) (by kernel_rfl) ?_
        exact next ⟨⟨w0, true, b2, sa, b, t0, its, n0, tv, its'⟩, tk, acc, i⟩ rfl hc hl _ 1 tu' _ _ _ 3 (by decide) (by decide) (by decide) (by decide) fun T' m' nx' tk'' h' D' G => GoX.same m' (by kernel_rfl) D' G
end
end Mine
end
section

end
section
namespace Mine
noncomputable def sNumber : Str := ⟨⟨[110, 117, 109, 98, 101, 114]⟩⟩
noncomputable def fr5 (P : Params) (sa t0 b u : Nat) (rows : Value) (k1 : Nat) (v1 : Value) (k2 : Nat) (v2 : Value) (sl : Array (Option Value)) : Obj :=
  ⟨.type "frame", none, .dict ⟨[⟨kh P sScript, .str sScript t0, .ref sa⟩, ⟨kh P ⟨⟨[102, 101, 101, 100]⟩⟩, .str ⟨⟨[102, 101, 101, 100]⟩⟩ (u+69), .ref (b+11)⟩, ⟨kh P ⟨⟨[114, 111, 119, 115]⟩⟩, .str ⟨⟨[114, 111, 119, 115]⟩⟩ (u+70), rows⟩,
    ⟨kh P sTurn, .str sTurn k1, v1⟩, ⟨kh P sNumber, .str sNumber k2, v2⟩]⟩ 5, sl⟩
noncomputable def codeL (x0 : Value) (tq : Nat) (rest : List Value) : Obj := ⟨.type "code", none, .fields ⟨x0 :: .str ⟨⟨[108, 97, 119, 46, 60, 108, 111, 99, 97, 108, 115, 62, 46, 60, 108, 97, 109, 98, 100, 97, 62]⟩⟩ tq :: rest⟩, ⟨[]⟩⟩
noncomputable def rowsV : List (Nat × Nat) → List Value
  | [] => []
  | (a, n) :: l => .str ⟨⟨[65, 32, 61, 32, 39, 120, 39]⟩⟩ a :: .str ⟨⟨[78, 32, 61, 32, 53]⟩⟩ n :: rowsV l
noncomputable def slS (b : Nat) : Array (Option Value) := ⟨[some (.ref 351), some (.ref 3), none, some .notImplemented, none, some (.ref 352), some (.ref 0), some (.ref (b+3)), some (.ref (b+2)), some (.ref (b+1))]⟩
structure T1 where
  turn : Int
  tu : Nat
  ia : Nat
  j : Nat
  m : Nat
  lc : Nat
  x0 : Value
  tq : Nat
  rest : List Value
  ra : Nat
  nr : Nat
  rs : List (Nat × Nat)
  no : Nat
  os : List (Nat × Nat)
  cv : Value
  k1 : Nat
  v1 : Value
  k2 : Nat
  v2 : Value
  sl : Array (Option Value)
noncomputable def TD1 (D : Dw) (X : T1) : LT :=
  LT.of 0 [(349, tabO [.int 204 0, .int 22 0, .ref X.lc]), (D.sa, lst D.its D.n0), (D.b, fr5 D.w.params D.sa D.t0 D.b D.u (.ref X.ra) X.k1 X.v1 X.k2 X.v2 X.sl), (D.b + 1, cellO none), (D.b + 2, cellO (some X.cv)), (D.b + 3, cellO (some (.ref (D.b + 13)))),
    (D.b + 7, lst D.acc D.na), (D.b + 11, lst [.ref (D.b + 7), .int X.turn X.tu] 0), (D.b + 12, wD D.w.params D.b D.u (.int 20000 (D.u + 14)) (.int 0 (D.u + 56))), (D.b + 13, instW D.b),
    (D.b + 21, lst (rowsV X.os) X.no), (D.b + 34, stD D.w.params D.u), (D.b + 27, lst [] 0), (X.ia, rngI X.j X.m), (X.ra, lst (rowsV X.rs) X.nr), (X.lc, codeL X.x0 X.tq X.rest)] .nil
noncomputable def VD (D : Dw) (ia : Nat) : VX := ⟨wsL D.w, ΓF D.sa D.b (cF 2 (.ref ia) D.b) pF1⟩
noncomputable def sD0 (D : Dw) (turn : Int) (tu ia j m : Nat) (p : Pos) (nx tk : Nat) : SX := ⟨cF 2 (.ref ia) D.b, [], dX (cF 2 (.ref ia) D.b), p, TD0 D turn tu ia j m, 15, nx, tk⟩
noncomputable def sD1 (D : Dw) (X : T1) (p : Pos) (nx tk : Nat) : SX := ⟨cF 2 (.ref X.ia) D.b, [], dX (cF 2 (.ref X.ia) D.b), p, TD1 D X, 16, nx, tk⟩
noncomputable def pairs : List Value → List (Nat × Nat)
  | a :: n :: l => (tokS a, tokS n) :: pairs l
  | _ => []
noncomputable def T1.of (jr jl : Nat) (turn : Int) (tu ia j m : Nat) (T : LT) : T1 :=
  { turn, tu, ia, j, m, lc := addrAt T jl, x0 := (seqAt (objAt T jl)).headD .none, tq := tokS ((seqAt (objAt T jl)).tail.headD .none), rest := (seqAt (objAt T jl)).drop 2,
    ra := addrAt T jr, nr := epAt (objAt T jr), rs := pairs (seqAt (objAt T jr)), no := epAt (objAt T 10), os := pairs (seqAt (objAt T 10)), cv := cellAt (objAt T 4),
    k1 := kTok (objAt T 2) 3, v1 := vAt (objAt T 2) 3, k2 := kTok (objAt T 2) 4, v2 := vAt (objAt T 2) 4, sl := (objAt T 2).slots }
theorem GoX.cutF {V : VB} {S : SX} (js : List Nat) (f : SX → SX) (e : (S.c, S.κ, S.t, S.p, S.nx, S.tk) = ((f S).c, (f S).κ, (f S).t, (f S).p, (f S).nx, (f S).tk))
    (hl : (f S).T.lt js.length = true) (hm : (f S).T.rows js.length 0 = js.map S.T.get) (hn : js.Nodup) (hs : sameSide V.toWs js 0 = true) (h : GoX V (f S)) : GoX V S :=
  GoX.cut js (f S) (congrArg (·.1) e) (congrArg (·.2.1) e) (congrArg (·.2.2.1) e) (congrArg (·.2.2.2.1) e) (congrArg (·.2.2.2.2.1) e) (congrArg (·.2.2.2.2.2) e) hl hm hn hs h
/-- a turn's head: behind the range's next; behind _law_told -/
noncomputable def hdA (V : VX) (S : SX) (c1 : Nat) (ia j m i : Nat) : SX :=
  let S1 := S.run V 2 c1
  ⟨S1.c, S1.κ, callK S1.t (.ok (.ret (.int (.ofNat j) S1.tk))), S1.p, S1.T.put 13 ia (rngI (j + 1) m), i, S1.nx, S1.tk + 1⟩
noncomputable def hdB (V : VX) (S : SX) (c1 c2 : Nat) (ia j m fa ca : Nat) (turn : Int) (tu' ta : Nat) (vv num : Value) (i nx tk : Nat) : SX :=
  let S3 := (hdA V S c1 ia j m i).run V 14 c2
  ⟨S3.c, S3.κ, callK S3.t (.ok (.ret (.ref ta))), S3.p, (S3.T.put 7 fa (lst [.ref ca, .int (turn + 1) tu'] 0)).put i ta (tup [vv, num]), i + 1, nx, tk⟩
noncomputable def hdP (V : VX) (S : SX) (c1 c2 : Nat) (ia j m fa ca : Nat) (turn : Int) (tu' ta pa da : Nat) (num : Value) (i nx tk : Nat) : SX :=
  let S3 := (hdA V S c1 ia j m i).run V 14 c2
  ⟨S3.c, S3.κ, callK S3.t (.ok (.ret (.ref ta))), S3.p, ((S3.T.put 7 fa (lst [.ref ca, .int (turn + 1) tu'] 0)).put (i + 1) pa (pat da)).put i ta (tup [.ref pa, num]), i + 2, nx, tk⟩
section
variable (h₀ : Heap) (R₁ : Result → Shared → Prop) (d : Drawn) (os : OsState) (w0 : World) (b1 b2 : Bool) (sa b t0 : Nat) (its : List Value) (n0 : Nat) (its' : List Value) (u : Nat) (acc : List Value) (na : Nat)
theorem headF (turn : Int) (tu ia m : Nat) (p : Pos) (nx tk : Nat) (hc : Cells acc) (hl : acc.length ≤ 63) (h0 : 0 ≤ turn) (h1 : turn ≤ 1000)
    (next : ∀ r t v pa ta tu' nx' tk', r < 14 → r ≠ 12 → GoX (vb (VD ⟨⟨w0, b1, b2, sa, b, t0, its, n0, [], its'⟩, u, acc, na⟩ ia) h₀ R₁ d os) (hdB (VD ⟨⟨w0, b1, b2, sa, b, t0, its, n0, [], its'⟩, u, acc, na⟩ ia) (sD0 ⟨⟨w0, b1, b2, sa, b, t0, its, n0, [], its'⟩, u, acc, na⟩ turn tu ia 0 (m + 1) p nx tk) 14 402654723 ia 0 m (b + 11) (b + 7) turn tu' ta (tv r t pa) (tn r v) 15 nx' tk'))
    (nextP : ∀ v pa da ta tu' nx' tk', GoX (vb (VD ⟨⟨w0, b1, b2, sa, b, t0, its, n0, [], its'⟩, u, acc, na⟩ ia) h₀ R₁ d os) (hdP (VD ⟨⟨w0, b1, b2, sa, b, t0, its, n0, [], its'⟩, u, acc, na⟩ ia) (sD0 ⟨⟨w0, b1, b2, sa, b, t0, its, n0, [], its'⟩, u, acc, na⟩ turn tu ia 0 (m + 1) p nx tk) 14 402654723 ia 0 m (b + 11) (b + 7) turn tu' ta pa da (tn 12 v) 15 nx' tk')) :
    GoX (vb (VD ⟨⟨w0, b1, b2, sa, b, t0, its, n0, [], its'⟩, u, acc, na⟩ ia) h₀ R₁ d os) (sD0 ⟨⟨w0, b1, b2, sa, b, t0, its, n0, [], its'⟩, u, acc, na⟩ turn tu ia 0 (m + 1) p nx tk) := by
  refine sx (by show 1 ≤ 2; decide) 2 14 (by refine bk b1 ?_ ?_ <;> kernel_rfl) (by refine bk b1 ?_ ?_ <;> kernel_rfl) ?_
  refine GoX.call (.call (.builtin "range_iterator.__next__") ⟨[.ref ia], []⟩) none (by refine bk b1 ?_ ?_ <;> kernel_rfl) AX rfl (by refine bk b1 ?_ ?_ <;> kernel_rfl) ?_
  intro h1' D
  refine c_range (D.own 13 ia (rngI 0 (m + 1)) (by refine bk b1 ?_ ?_ <;> kernel_rfl)) ?_
  intro h2 hit hs F
  refine GoX.from 15 ?_ ((D.step1 (i := 13) (o := (rngI 0 (m + 1))) (by refine bk b1 ?_ ?_ <;> kernel_rfl) F hit (.inr (by show 2 ≤ 13; decide))).at (hs.trans D.size))
  refine sx (by show 1 ≤ 2; decide) 14 402654723 (by refine bk b1 ?_ ?_ <;> kernel_rfl) (by refine bk b1 ?_ ?_ <;> kernel_rfl) ?_
  refine GoX.call (.call (.ref 333) ⟨[.ref (b + 11)], []⟩) none (by refine bk b1 ?_ ?_ <;> kernel_rfl) AX rfl (by refine bk b1 ?_ ?_ <;> kernel_rfl) ?_
  intro h3 D
  refine told_spec _ AX h3 (b + 11) (b + 7) turn tu 0 na _ acc d os _ rfl (by show 500 ≤ 590; decide) D.known (D.own 7 (b + 11) (lst [.ref (b + 7), .int turn tu] 0) (by refine bk b1 ?_ ?_ <;> kernel_rfl)) (D.own 6 (b + 7) (lst acc na) (by refine bk b1 ?_ ?_ <;> kernel_rfl)) (by omega)
    (D.off 7 (b + 11) (lst [.ref (b + 7), .int turn tu] 0) (by refine bk b1 ?_ ?_ <;> kernel_rfl)) (D.off 6 (b + 7) (lst acc na) (by refine bk b1 ?_ ?_ <;> kernel_rfl)) hc hl h0 h1 ?_
  intro r t v pa da ta tu' h4 t4 hr hta ht hp hf F
  have D1 := D.step1 (i := 7) (o := lst [.ref (b + 7), .int turn tu] 0) (by refine bk b1 ?_ ?_ <;> kernel_rfl) F hf (.inr (by show 2 ≤ 7; decide))
  have U1 := (D.under).put (i := 7) (b := b + 11) (o := lst [.ref (b + 7), .int turn tu] 0) (o' := lst [.ref (b + 7), .int (turn + 1) tu'] 0) (by refine bk b1 ?_ ?_ <;> kernel_rfl)
  rw [D.size] at hta
  by_cases h12 : r = 12
  · subst h12
    obtain ⟨p1, p2, p3⟩ := hp rfl
    rw [D.size] at p1
    have D2 := D.fresh D1 U1 (b := pa) (m := 16) (o := pat da) p1 p1 p3 (by show 1 ≤ 2; decide) (by show 2 ≤ 16; decide) (by refine bk b1 ?_ ?_ <;> kernel_rfl) (by refine bk b1 ?_ ?_ <;> kernel_rfl)
    have D3 := (D.fresh D2.1 D2.2 (b := ta) (m := 15) (o := tup [.ref pa, tn 12 v]) p2 hta ht (by show 1 ≤ 2; decide) (by show 2 ≤ 15; decide) (by refine bk b1 ?_ ?_ <;> kernel_rfl) (by refine bk b1 ?_ ?_ <;> kernel_rfl)).1
    refine GoX.from 17 ?_ D3
    exact nextP v pa da ta tu' _ t4
  · have D3 := (D.fresh D1 U1 (b := ta) (m := 15) (o := tup [tv r t pa, tn r v]) hta hta ht (by show 1 ≤ 2; decide) (by show 2 ≤ 15; decide) (by refine bk b1 ?_ ?_ <;> kernel_rfl) (by refine bk b1 ?_ ?_ <;> kernel_rfl)).1
    refine GoX.from 16 ?_ D3
    exact next r t v pa ta tu' _ t4 hr h12
theorem headU (X : T1) (m : Nat) (p : Pos) (nx tk : Nat) (hc : Cells acc) (hl : acc.length ≤ 63) (h0 : 0 ≤ X.turn) (h1 : X.turn ≤ 1000)
    (next : ∀ r t v pa ta tu' nx' tk', r < 14 → r ≠ 12 → GoX (vb (VD ⟨⟨w0, b1, b2, sa, b, t0, its, n0, [], its'⟩, u, acc, na⟩ X.ia) h₀ R₁ d os) (hdB (VD ⟨⟨w0, b1, b2, sa, b, t0, its, n0, [], its'⟩, u, acc, na⟩ X.ia) (sD1 ⟨⟨w0, b1, b2, sa, b, t0, its, n0, [], its'⟩, u, acc, na⟩ {X with m := m + 1} p nx tk) 14 402654723 X.ia X.j m (b + 11) (b + 7) X.turn tu' ta (tv r t pa) (tn r v) 16 nx' tk'))
    (nextP : ∀ v pa da ta tu' nx' tk', GoX (vb (VD ⟨⟨w0, b1, b2, sa, b, t0, its, n0, [], its'⟩, u, acc, na⟩ X.ia) h₀ R₁ d os) (hdP (VD ⟨⟨w0, b1, b2, sa, b, t0, its, n0, [], its'⟩, u, acc, na⟩ X.ia) (sD1 ⟨⟨w0, b1, b2, sa, b, t0, its, n0, [], its'⟩, u, acc, na⟩ {X with m := m + 1} p nx tk) 14 402654723 X.ia X.j m (b + 11) (b + 7) X.turn tu' ta pa da (tn 12 v) 16 nx' tk')) :
    GoX (vb (VD ⟨⟨w0, b1, b2, sa, b, t0, its, n0, [], its'⟩, u, acc, na⟩ X.ia) h₀ R₁ d os) (sD1 ⟨⟨w0, b1, b2, sa, b, t0, its, n0, [], its'⟩, u, acc, na⟩ {X with m := m + 1} p nx tk) := by
  refine sx (by show 1 ≤ 2; decide) 2 14 (by refine bk b1 ?_ ?_ <;> kernel_rfl) (by refine bk b1 ?_ ?_ <;> kernel_rfl) ?_
  refine GoX.call (.call (.builtin "range_iterator.__next__") ⟨[.ref X.ia], []⟩) none (by refine bk b1 ?_ ?_ <;> kernel_rfl) AX rfl (by refine bk b1 ?_ ?_ <;> kernel_rfl) ?_
  intro h1' D
  refine c_range (D.own 13 X.ia (rngI X.j (m + 1)) (by refine bk b1 ?_ ?_ <;> kernel_rfl)) ?_
  intro h2 hit hs F
  refine GoX.from 16 ?_ ((D.step1 (i := 13) (o := (rngI X.j (m + 1))) (by refine bk b1 ?_ ?_ <;> kernel_rfl) F hit (.inr (by show 2 ≤ 13; decide))).at (hs.trans D.size))
  refine sx (by show 1 ≤ 2; decide) 14 402654723 (by refine bk b1 ?_ ?_ <;> kernel_rfl) (by refine bk b1 ?_ ?_ <;> kernel_rfl) ?_
  refine GoX.call (.call (.ref 333) ⟨[.ref (b + 11)], []⟩) none (by refine bk b1 ?_ ?_ <;> kernel_rfl) AX rfl (by refine bk b1 ?_ ?_ <;> kernel_rfl) ?_
  intro h3 D
  refine told_spec _ AX h3 (b + 11) (b + 7) X.turn X.tu 0 na _ acc d os _ rfl (by show 500 ≤ 590; decide) D.known (D.own 7 (b + 11) (lst [.ref (b + 7), .int X.turn X.tu] 0) (by refine bk b1 ?_ ?_ <;> kernel_rfl)) (D.own 6 (b + 7) (lst acc na) (by refine bk b1 ?_ ?_ <;> kernel_rfl)) (by omega)
    (D.off 7 (b + 11) (lst [.ref (b + 7), .int X.turn X.tu] 0) (by refine bk b1 ?_ ?_ <;> kernel_rfl)) (D.off 6 (b + 7) (lst acc na) (by refine bk b1 ?_ ?_ <;> kernel_rfl)) hc hl h0 h1 ?_
  intro r t v pa da ta tu' h4 t4 hr hta ht hp hf F
  have D1 := D.step1 (i := 7) (o := lst [.ref (b + 7), .int X.turn X.tu] 0) (by refine bk b1 ?_ ?_ <;> kernel_rfl) F hf (.inr (by show 2 ≤ 7; decide))
  have U1 := (D.under).put (i := 7) (b := b + 11) (o := lst [.ref (b + 7), .int X.turn X.tu] 0) (o' := lst [.ref (b + 7), .int (X.turn + 1) tu'] 0) (by refine bk b1 ?_ ?_ <;> kernel_rfl)
  rw [D.size] at hta
  by_cases h12 : r = 12
  · subst h12
    obtain ⟨p1, p2, p3⟩ := hp rfl
    rw [D.size] at p1
    have D2 := D.fresh D1 U1 (b := pa) (m := 17) (o := pat da) p1 p1 p3 (by show 1 ≤ 2; decide) (by show 2 ≤ 17; decide) (by refine bk b1 ?_ ?_ <;> kernel_rfl) (by refine bk b1 ?_ ?_ <;> kernel_rfl)
    have D3 := (D.fresh D2.1 D2.2 (b := ta) (m := 16) (o := tup [.ref pa, tn 12 v]) p2 hta ht (by show 1 ≤ 2; decide) (by show 2 ≤ 16; decide) (by refine bk b1 ?_ ?_ <;> kernel_rfl) (by refine bk b1 ?_ ?_ <;> kernel_rfl)).1
    refine GoX.from 18 ?_ D3
    exact nextP v pa da ta tu' _ t4
  · have D3 := (D.fresh D1 U1 (b := ta) (m := 16) (o := tup [tv r t pa, tn r v]) hta hta ht (by show 1 ≤ 2; decide) (by show 2 ≤ 16; decide) (by refine bk b1 ?_ ?_ <;> kernel_rfl) (by refine bk b1 ?_ ?_ <;> kernel_rfl)).1
    refine GoX.from 17 ?_ D3
    exact next r t v pa ta tu' _ t4 hr h12
end
end Mine
end
section
namespace Mine
noncomputable def WholeOf (w : World) (d : Drawn) (os : OsState) (vv : Value) (num : Nat → Value) : Prop := ∀ (h : Heap) (t : Nat) (R : Result → Shared → Prop), Known w.params h →
  (∀ u h' t', Aft h h' [] → R (.ok (.ret (num u))) ⟨h', #[], d, t', os⟩) → codeAny (model PySem.Challenge.pw_pf0369_01 w) AX (.call (.ref 177) ⟨[vv, .int 32 520], []⟩) R ⟨h, #[], d, t, os⟩
/-- a heap that holds the program is not small -/
theorem GoX.fromB {V : VB} {c : Code} {κ : KX} {t : Sem PySem.Fin} {p : Pos} {T : LT} (m : Nat) {tk : Nat} {h : Heap} {P : Params} (hk : V.kt.get 352 = some (k352 P)) (D : Rep V.toWs V.h₀ V.M T h.objs.size h)
    (G : ∀ q, GoX V ⟨c, κ, t, p, T, m, q + 353, tk⟩) : MeanX V c κ t p ⟨h, #[], V.d, tk, V.os⟩ := by
  have hb : 352 < h.objs.size := Heap.lt_size (D.known _ _ hk)
  obtain ⟨q, hq⟩ : ∃ q, h.objs.size = q + 353 := ⟨h.objs.size - 353, by omega⟩
  rw [hq] at D
  exact G q h D
end Mine
end
section
namespace Mine
section
variable (h₀ : Heap) (R₁ : Result → Shared → Prop) (d : Drawn) (os : OsState) (w0 : World) (b1 b2 : Bool) (sa b t0 : Nat) (its : List Value) (n0 : Nat) (its' : List Value) (u : Nat) (acc : List Value) (na : Nat)
theorem wkF_none_0 (turn : Int) (tu ia m : Nat) (p : Pos) (nx tk : Nat) (xv : Str) (tv : Nat) (tu' ta v nx' tk' : Nat) (hW : WholeOf (Dw.toLw ⟨⟨w0, b1, b2, sa, b, t0, its, n0, [], its'⟩, u, acc, na⟩).w d os (.str xv tv) fun u => .none)
    (next : ∀ (X : T1) (p : Pos) (nx tk : Nat), X.ia = ia → X.turn = turn + 1 → X.m = m → X.rs.length = 0 → X.os.length = 0 → X.sl = (slS b) → GoX (vb (VD ⟨⟨w0, b1, b2, sa, b, t0, its, n0, [], its'⟩, u, acc, na⟩ ia) h₀ R₁ d os) (sD1 ⟨⟨w0, b1, b2, sa, b, t0, its, n0, [], its'⟩, u, acc, na⟩ X p nx tk)) :
    GoX (vb (VD ⟨⟨w0, b1, b2, sa, b, t0, its, n0, [], its'⟩, u, acc, na⟩ ia) h₀ R₁ d os) (hdB (VD ⟨⟨w0, b1, b2, sa, b, t0, its, n0, [], its'⟩, u, acc, na⟩ ia) (sD0 ⟨⟨w0, b1, b2, sa, b, t0, its, n0, [], its'⟩, u, acc, na⟩ turn tu ia 0 (m + 1) p nx tk) 14 402654723 ia 0 m (b + 11) (b + 7) turn tu' ta (.str xv tv) (.none) 15 nx' tk') := by
  refine sx (by show 1 ≤ 2; decide) 229 38648469623993218067672568484815911905189768617832497389343958595392500566101569317924506609376473510154757208471663233606480808308570821879386905135452279383360787387550419763559920665103785020991302671553748669665368485557918851931012993763803496633966916307666012656501033803792 (by refine bk b1 ?_ ?_ <;> kernel_rfl) (by refine bk b1 ?_ ?_ <;> kernel_rfl) ?_
  refine GoX.call (.call (.ref 177) ⟨[.str xv tv, .int 32 520], []⟩) none (by refine bk b1 ?_ ?_ <;> kernel_rfl) AX rfl (by refine bk b1 ?_ ?_ <;> kernel_rfl) ?_
  intro h D
  refine hW h _ _ D.known fun uu h2 t2 F => ?_
  refine GoX.fromB 34 (P := (Dw.toLw ⟨⟨w0, b1, b2, sa, b, t0, its, n0, [], its'⟩, u, acc, na⟩).w.params) (by refine bk b1 ?_ ?_ <;> kernel_rfl) (D.step F rfl) fun q => ?_
  refine sx (by show 1 ≤ 2; decide) 386 10869644788991224299799425685389791205432747510141753657797183867524722858553994693269310512298680263573101413489239691691636580588776114044862782294519808348148969722617850040809266282481630528579898471000760325951399822553392915197066395830933838183488684770993548845456560980685577599265580651582144907068169669185070991223699574317036482801665064368848293882143341902013095472463184562423355149926848240354888600137338749781878259526322234464527456956265690638782340255812896358268024024597264533851004612673627523419725147679099281796691150575490807478894121186921794333505929697178593645321693212920130188649972770 (by refine bk b1 ?_ ?_ <;> kernel_rfl) (by refine bk b1 ?_ ?_ <;> kernel_rfl) ?_
  refine GoX.cutF [0, 1, 2, 3, 4, 5, 6, 7, 8, 9, 10, 11, 12, 13, 20, 27] (fun S => sD1 ⟨⟨w0, b1, b2, sa, b, t0, its, n0, [], its'⟩, u, acc, na⟩ (T1.of 20 27 (turn + 1) tu' ia (0 + 1) m S.T) S.p S.nx S.tk) (by refine bk b1 ?_ ?_ <;> kernel_rfl) (by refine bk b1 ?_ ?_ <;> kernel_rfl) (by refine bk b1 ?_ ?_ <;> kernel_rfl) (by decide) (by refine bk b1 ?_ ?_ <;> kernel_rfl) ?_
  refine next _ _ _ _ ?_ ?_ ?_ ?_ ?_ ?_
  · rfl
  · rfl
  · rfl
  · refine bk b1 ?_ ?_ <;> kernel_rfl
  · refine bk b1 ?_ ?_ <;> kernel_rfl
  · refine bk b1 ?_ ?_ <;> kernel_rfl
theorem wkF_pat_0 (turn : Int) (tu ia m : Nat) (p : Pos) (nx tk : Nat) (pa da tu' ta nx' tk' : Nat) (hW : ∀ (h : Heap) (t : Nat) (R : Result → Shared → Prop), Known (Dw.toLw ⟨⟨w0, b1, b2, sa, b, t0, its, n0, [], its'⟩, u, acc, na⟩).w.params h → h.get? pa = some (pat da) → (kq (Dw.toLw ⟨⟨w0, b1, b2, sa, b, t0, its, n0, [], its'⟩, u, acc, na⟩).w.params).get pa = none → (∀ (uu : Nat) h' t', Aft h h' [] → R (.ok (.ret .none)) ⟨h', #[], d, t', os⟩) → codeAny (model PySem.Challenge.pw_pf0369_01 (Dw.toLw ⟨⟨w0, b1, b2, sa, b, t0, its, n0, [], its'⟩, u, acc, na⟩).w) AX (.call (.ref 177) ⟨[.ref pa, .int 32 520], []⟩) R ⟨h, #[], d, t, os⟩)
    (next : ∀ (X : T1) (p : Pos) (nx tk : Nat), X.ia = ia → X.turn = turn + 1 → X.m = m → X.rs.length = 0 → X.os.length = 0 → X.sl = (slS b) → GoX (vb (VD ⟨⟨w0, b1, b2, sa, b, t0, its, n0, [], its'⟩, u, acc, na⟩ ia) h₀ R₁ d os) (sD1 ⟨⟨w0, b1, b2, sa, b, t0, its, n0, [], its'⟩, u, acc, na⟩ X p nx tk)) :
    GoX (vb (VD ⟨⟨w0, b1, b2, sa, b, t0, its, n0, [], its'⟩, u, acc, na⟩ ia) h₀ R₁ d os) (hdP (VD ⟨⟨w0, b1, b2, sa, b, t0, its, n0, [], its'⟩, u, acc, na⟩ ia) (sD0 ⟨⟨w0, b1, b2, sa, b, t0, its, n0, [], its'⟩, u, acc, na⟩ turn tu ia 0 (m + 1) p nx tk) 14 402654723 ia 0 m (b + 11) (b + 7) turn tu' ta pa da .none 15 nx' tk') := by
  refine sx (by show 1 ≤ 2; decide) 229 39785189318816548010839408734368847271463939158150314045923563977897502955094771113452873587719482930418200025499316296074794634169365071163388123222329737037756513498165347290811465882873032858155750818639496055937689743056910909951561240857551044097527641239718468484012657614864 (by refine bk b1 ?_ ?_ <;> kernel_rfl) (by refine bk b1 ?_ ?_ <;> kernel_rfl) ?_
  refine GoX.call (.call (.ref 177) ⟨[.ref pa, .int 32 520], []⟩) none (by refine bk b1 ?_ ?_ <;> kernel_rfl) AX rfl (by refine bk b1 ?_ ?_ <;> kernel_rfl) ?_
  intro h D
  refine hW h _ _ D.known (D.own 16 pa (pat da) (by refine bk b1 ?_ ?_ <;> kernel_rfl)) (D.off 16 pa (pat da) (by refine bk b1 ?_ ?_ <;> kernel_rfl)) fun uu h2 t2 F => ?_
  refine GoX.fromB 35 (P := (Dw.toLw ⟨⟨w0, b1, b2, sa, b, t0, its, n0, [], its'⟩, u, acc, na⟩).w.params) (by refine bk b1 ?_ ?_ <;> kernel_rfl) (D.step F rfl) fun q => ?_
  refine sx (by show 1 ≤ 2; decide) 386 11386716889984687750780133190814805818425738157907395984362473072573739634643884932967892457126448872102629847390016582481101044969188534196830937122369703688406743634678564775917254037948361638946687660569103232387370622648998695782867482519788269207811208125179820155984861918076945886418466299974330996042471244908663797260879742918883977669075298999126378551264202230914425080801069862975349964706671281720090897991338286206601485170897829839392820697553026833528262757856240779255763955609186963140414181012752374639207724415257674422891072188971279306997364974453206343261101656080090491420325145456579225500534307 (by refine bk b1 ?_ ?_ <;> kernel_rfl) (by refine bk b1 ?_ ?_ <;> kernel_rfl) ?_
  refine GoX.cutF [0, 1, 2, 3, 4, 5, 6, 7, 8, 9, 10, 11, 12, 13, 21, 28] (fun S => sD1 ⟨⟨w0, b1, b2, sa, b, t0, its, n0, [], its'⟩, u, acc, na⟩ (T1.of 21 28 (turn + 1) tu' ia (0 + 1) m S.T) S.p S.nx S.tk) (by refine bk b1 ?_ ?_ <;> kernel_rfl) (by refine bk b1 ?_ ?_ <;> kernel_rfl) (by refine bk b1 ?_ ?_ <;> kernel_rfl) (by decide) (by refine bk b1 ?_ ?_ <;> kernel_rfl) ?_
  refine next _ _ _ _ ?_ ?_ ?_ ?_ ?_ ?_
  · rfl
  · rfl
  · rfl
  · refine bk b1 ?_ ?_ <;> kernel_rfl
  · refine bk b1 ?_ ?_ <;> kernel_rfl
  · refine bk b1 ?_ ?_ <;> kernel_rfl
theorem wkF_zero_0 (turn : Int) (tu ia m : Nat) (p : Pos) (nx tk : Nat) (xv : Str) (tv : Nat) (tu' ta v nx' tk' : Nat) (hW : WholeOf (Dw.toLw ⟨⟨w0, b1, b2, sa, b, t0, its, n0, [], its'⟩, u, acc, na⟩).w d os (.str xv tv) fun u => .int 0 u)
    (next : ∀ (X : T1) (p : Pos) (nx tk : Nat), X.ia = ia → X.turn = turn + 1 → X.m = m → X.rs.length = 0 → X.os.length = 0 → X.sl = ⟨[]⟩ → GoX (vb (VD ⟨⟨w0, b1, b2, sa, b, t0, its, n0, [], its'⟩, u, acc, na⟩ ia) h₀ R₁ d os) (sD1 ⟨⟨w0, b1, b2, sa, b, t0, its, n0, [], its'⟩, u, acc, na⟩ X p nx tk)) :
    GoX (vb (VD ⟨⟨w0, b1, b2, sa, b, t0, its, n0, [], its'⟩, u, acc, na⟩ ia) h₀ R₁ d os) (hdB (VD ⟨⟨w0, b1, b2, sa, b, t0, its, n0, [], its'⟩, u, acc, na⟩ ia) (sD0 ⟨⟨w0, b1, b2, sa, b, t0, its, n0, [], its'⟩, u, acc, na⟩ turn tu ia 0 (m + 1) p nx tk) 14 402654723 ia 0 m (b + 11) (b + 7) turn tu' ta (.str xv tv) (.int 0 v) 15 nx' tk') := by
  refine sx (by show 1 ≤ 2; decide) 237 19788016447484527650648355064225746895457161532330238663344106800840960289844003490777347384000754437199235690737491575606518173853988260802246095429351567044280723142425814918942679380533137930747546967828108427325823248800429105010316544440137874499314419091567138239405324245147664 (by refine bk b1 ?_ ?_ <;> kernel_rfl) (by refine bk b1 ?_ ?_ <;> kernel_rfl) ?_
  refine GoX.call (.call (.ref 177) ⟨[.str xv tv, .int 32 520], []⟩) none (by refine bk b1 ?_ ?_ <;> kernel_rfl) AX rfl (by refine bk b1 ?_ ?_ <;> kernel_rfl) ?_
  intro h D
  refine hW h _ _ D.known fun uu h2 t2 F => ?_
  refine GoX.fromB 34 (P := (Dw.toLw ⟨⟨w0, b1, b2, sa, b, t0, its, n0, [], its'⟩, u, acc, na⟩).w.params) (by refine bk b1 ?_ ?_ <;> kernel_rfl) (D.step F rfl) fun q => ?_
  refine sx (by show 1 ≤ 2; decide) 73 4323877205820112948451959638443726361719239692848191358347265058 (by refine bk b1 ?_ ?_ <;> kernel_rfl) (by refine bk b1 ?_ ?_ <;> kernel_rfl) ?_
  refine GoX.cutF [0, 1, 2, 3, 4, 5, 6, 7, 8, 9, 10, 11, 12, 13, 20, 27] (fun S => sD1 ⟨⟨w0, b1, b2, sa, b, t0, its, n0, [], its'⟩, u, acc, na⟩ (T1.of 20 27 (turn + 1) tu' ia (0 + 1) m S.T) S.p S.nx S.tk) (by refine bk b1 ?_ ?_ <;> kernel_rfl) (by refine bk b1 ?_ ?_ <;> kernel_rfl) (by refine bk b1 ?_ ?_ <;> kernel_rfl) (by decide) (by refine bk b1 ?_ ?_ <;> kernel_rfl) ?_
  refine next _ _ _ _ ?_ ?_ ?_ ?_ ?_ ?_
  · rfl
  · rfl
  · rfl
  · refine bk b1 ?_ ?_ <;> kernel_rfl
  · refine bk b1 ?_ ?_ <;> kernel_rfl
  · refine bk b1 ?_ ?_ <;> kernel_rfl
theorem wkF_zeroi_0 (turn : Int) (tu ia m : Nat) (p : Pos) (nx tk : Nat) (kv : Int) (tv : Nat) (tu' ta v nx' tk' : Nat) (hW : WholeOf (Dw.toLw ⟨⟨w0, b1, b2, sa, b, t0, its, n0, [], its'⟩, u, acc, na⟩).w d os (.int kv tv) fun u => .int 0 u)
    (next : ∀ (X : T1) (p : Pos) (nx tk : Nat), X.ia = ia → X.turn = turn + 1 → X.m = m → X.rs.length = 0 → X.os.length = 0 → X.sl = ⟨[]⟩ → GoX (vb (VD ⟨⟨w0, b1, b2, sa, b, t0, its, n0, [], its'⟩, u, acc, na⟩ ia) h₀ R₁ d os) (sD1 ⟨⟨w0, b1, b2, sa, b, t0, its, n0, [], its'⟩, u, acc, na⟩ X p nx tk)) :
    GoX (vb (VD ⟨⟨w0, b1, b2, sa, b, t0, its, n0, [], its'⟩, u, acc, na⟩ ia) h₀ R₁ d os) (hdB (VD ⟨⟨w0, b1, b2, sa, b, t0, its, n0, [], its'⟩, u, acc, na⟩ ia) (sD0 ⟨⟨w0, b1, b2, sa, b, t0, its, n0, [], its'⟩, u, acc, na⟩ turn tu ia 0 (m + 1) p nx tk) 14 402654723 ia 0 m (b + 11) (b + 7) turn tu' ta (.int kv tv) (.int 0 v) 15 nx' tk') := by
  refine sx (by show 1 ≤ 2; decide) 237 19788016447484527650648355064225746895457161532330238663344106800840960289844003490777347384000754437199235690737491575606518173853988260802246095429351567044280723142425814918942679380533137930747546967828108427325823248800429105010316544440137874499314419091567138239405324245147664 (by refine bk b1 ?_ ?_ <;> kernel_rfl) (by refine bk b1 ?_ ?_ <;> kernel_rfl) ?_
  refine GoX.call (.call (.ref 177) ⟨[.int kv tv, .int 32 520], []⟩) none (by refine bk b1 ?_ ?_ <;> kernel_rfl) AX rfl (by refine bk b1 ?_ ?_ <;> kernel_rfl) ?_
  intro h D
  refine hW h _ _ D.known fun uu h2 t2 F => ?_
  refine GoX.fromB 34 (P := (Dw.toLw ⟨⟨w0, b1, b2, sa, b, t0, its, n0, [], its'⟩, u, acc, na⟩).w.params) (by refine bk b1 ?_ ?_ <;> kernel_rfl) (D.step F rfl) fun q => ?_
  refine sx (by show 1 ≤ 2; decide) 73 4323877205820112948451959638443726361719239692848191358347265058 (by refine bk b1 ?_ ?_ <;> kernel_rfl) (by refine bk b1 ?_ ?_ <;> kernel_rfl) ?_
  refine GoX.cutF [0, 1, 2, 3, 4, 5, 6, 7, 8, 9, 10, 11, 12, 13, 20, 27] (fun S => sD1 ⟨⟨w0, b1, b2, sa, b, t0, its, n0, [], its'⟩, u, acc, na⟩ (T1.of 20 27 (turn + 1) tu' ia (0 + 1) m S.T) S.p S.nx S.tk) (by refine bk b1 ?_ ?_ <;> kernel_rfl) (by refine bk b1 ?_ ?_ <;> kernel_rfl) (by refine bk b1 ?_ ?_ <;> kernel_rfl) (by decide) (by refine bk b1 ?_ ?_ <;> kernel_rfl) ?_
  refine next _ _ _ _ ?_ ?_ ?_ ?_ ?_ ?_
  · rfl
  · rfl
  · rfl
  · refine bk b1 ?_ ?_ <;> kernel_rfl
  · refine bk b1 ?_ ?_ <;> kernel_rfl
  · refine bk b1 ?_ ?_ <;> kernel_rfl
theorem wkF_pos_0_bf (turn : Int) (tu ia m : Nat) (p : Pos) (nx tk : Nat) (xv : Str) (tv : Nat) (n tu' ta v nx' tk' : Nat) (hW : WholeOf (Dw.toLw ⟨⟨w0, b1, false, sa, b, t0, its, n0, [], its'⟩, u, acc, na⟩).w d os (.str xv tv) fun u => .int (.ofNat (n + 1)) u)
    (next : ∀ (X : T1) (p : Pos) (nx tk : Nat), X.ia = ia → X.turn = turn + 1 → X.m = m → X.rs.length = 1 → X.os.length = 1 → X.sl = ⟨[]⟩ → GoX (vb (VD ⟨⟨w0, b1, false, sa, b, t0, its, n0, [], its'⟩, u, acc, na⟩ ia) h₀ R₁ d os) (sD1 ⟨⟨w0, b1, false, sa, b, t0, its, n0, [], its'⟩, u, acc, na⟩ X p nx tk)) :
    GoX (vb (VD ⟨⟨w0, b1, false, sa, b, t0, its, n0, [], its'⟩, u, acc, na⟩ ia) h₀ R₁ d os) (hdB (VD ⟨⟨w0, b1, false, sa, b, t0, its, n0, [], its'⟩, u, acc, na⟩ ia) (sD0 ⟨⟨w0, b1, false, sa, b, t0, its, n0, [], its'⟩, u, acc, na⟩ turn tu ia 0 (m + 1) p nx tk) 14 402654723 ia 0 m (b + 11) (b + 7) turn tu' ta (.str xv tv) (.int (.ofNat (n + 1)) v) 15 nx' tk') := by
  refine sx (by show 1 ≤ 2; decide) 239 19788016447484527650648355064225746895457161532330238663344106800840960289844003490777347384000754437199235690737491575606518173853988260802246095429351567044280723142425814918942679380533137930747546967828108427325823248800429105010316544440137874499314419091567138239405324245147664 (by refine bk b1 ?_ ?_ <;> kernel_rfl) (by refine bk b1 ?_ ?_ <;> kernel_rfl) ?_
  refine GoX.call (.call (.ref 177) ⟨[.str xv tv, .int 32 520], []⟩) none (by refine bk b1 ?_ ?_ <;> kernel_rfl) AX rfl (by refine bk b1 ?_ ?_ <;> kernel_rfl) ?_
  intro h D
  refine hW h _ _ D.known fun uu h2 t2 F => ?_
  refine GoX.fromB 34 (P := (Dw.toLw ⟨⟨w0, b1, false, sa, b, t0, its, n0, [], its'⟩, u, acc, na⟩).w.params) (by refine bk b1 ?_ ?_ <;> kernel_rfl) (D.step F rfl) fun q => ?_
  refine sx (by show 1 ≤ 2; decide) 1017 259464704678581606325585744686381241199043486183752519992456733515027214767848306734580414182411659374137864417898250991629870666634838019739308981203266942092706222003756814122686647031306019495584586709614658270059617724278016542602652360699999638100612153720453330427753140492943204489873779411028966337925441850599496448179269090811499122270734455018674765915627083266208719529305941826884145206174371031159852637883453501904973066996923330268643404792199129588273107124136041937738713048197181300076988709492184215947144210155547701985826500400289555873046430104089073984014811622238201016450952893893917275944723787194934323963942636226246242469947097000189145978610628867622400460217214315629940991085907948876621205320186799615859495132162951711484579712889793920162164642192562174745806666643834939157913729201788575171079498089949015378679147077189807674405224298370988226623627646659023790061751688040978605424852861409894787944135140044702427664979796083961938408831548351308873929540353485416375633664119197154544755482082863196519453745412750414260980384310915781840124371026948867441539125101602 (by refine bk b1 ?_ ?_ <;> kernel_rfl) (by refine bk b1 ?_ ?_ <;> kernel_rfl) ?_
  refine GoX.cutF [0, 1, 2, 3, 4, 5, 6, 7, 8, 9, 10, 11, 12, 13, 20, 27] (fun S => sD1 ⟨⟨w0, b1, false, sa, b, t0, its, n0, [], its'⟩, u, acc, na⟩ (T1.of 20 27 (turn + 1) tu' ia (0 + 1) m S.T) S.p S.nx S.tk) (by refine bk b1 ?_ ?_ <;> kernel_rfl) (by refine bk b1 ?_ ?_ <;> kernel_rfl) (by refine bk b1 ?_ ?_ <;> kernel_rfl) (by decide) (by refine bk b1 ?_ ?_ <;> kernel_rfl) ?_
  refine next _ _ _ _ ?_ ?_ ?_ ?_ ?_ ?_
  · rfl
  · rfl
  · rfl
  · refine bk b1 ?_ ?_ <;> kernel_rfl
  · refine bk b1 ?_ ?_ <;> kernel_rfl
  · refine bk b1 ?_ ?_ <;> kernel_rfl
theorem wkF_pos_0_bt (turn : Int) (tu ia m : Nat) (p : Pos) (nx tk : Nat) (xv : Str) (tv : Nat) (n tu' ta v nx' tk' : Nat) (hW : WholeOf (Dw.toLw ⟨⟨w0, b1, true, sa, b, t0, its, n0, [], its'⟩, u, acc, na⟩).w d os (.str xv tv) fun u => .int (.ofNat (n + 1)) u)
    (next : ∀ (X : T1) (p : Pos) (nx tk : Nat), X.ia = ia → X.turn = turn + 1 → X.m = m → X.rs.length = 1 → X.os.length = 1 → X.sl = ⟨[]⟩ → GoX (vb (VD ⟨⟨w0, b1, true, sa, b, t0, its, n0, [], its'⟩, u, acc, na⟩ ia) h₀ R₁ d os) (sD1 ⟨⟨w0, b1, true, sa, b, t0, its, n0, [], its'⟩, u, acc, na⟩ X p nx tk)) :
    GoX (vb (VD ⟨⟨w0, b1, true, sa, b, t0, its, n0, [], its'⟩, u, acc, na⟩ ia) h₀ R₁ d os) (hdB (VD ⟨⟨w0, b1, true, sa, b, t0, its, n0, [], its'⟩, u, acc, na⟩ ia) (sD0 ⟨⟨w0, b1, true, sa, b, t0, its, n0, [], its'⟩, u, acc, na⟩ turn tu ia 0 (m + 1) p nx tk) 14 402654723 ia 0 m (b + 11) (b + 7) turn tu' ta (.str xv tv) (.int (.ofNat (n + 1)) v) 15 nx' tk') := by
  refine sx (by show 1 ≤ 2; decide) 239 19788016447484527650648355064225746895457161532330238663344106800840960289844003490777347384000754437199235690737491575606518173853988260802246095429351567044280723142425814918942679380533137930747546967828108427325823248800429105010316544440137874499314419091567138239405324245147664 (by refine bk b1 ?_ ?_ <;> kernel_rfl) (by refine bk b1 ?_ ?_ <;> kernel_rfl) ?_
  refine GoX.call (.call (.ref 177) ⟨[.str xv tv, .int 32 520], []⟩) none (by refine bk b1 ?_ ?_ <;> kernel_rfl) AX rfl (by refine bk b1 ?_ ?_ <;> kernel_rfl) ?_
  intro h D
  refine hW h _ _ D.known fun uu h2 t2 F => ?_
  refine GoX.fromB 34 (P := (Dw.toLw ⟨⟨w0, b1, true, sa, b, t0, its, n0, [], its'⟩, u, acc, na⟩).w.params) (by refine bk b1 ?_ ?_ <;> kernel_rfl) (D.step F rfl) fun q => ?_
  refine sx (by show 1 ≤ 2; decide) 997 54943788378091407040495050203100396378668434266869147437446932289767032643455521848951393838096686593899387620428456123058436743838112843133743664943042069110812433159982422343285642691247538734878289850119978554599820904565728723188125741729567188009802622485680839171560936132262359764319255524025277285069221597935231686131238710320540436728612336076971910828166655526727557365350480175274509355246511934618408675157883078796135583447137382587997111612565073244845462386418936485710362303029013838553189032603220754484982554122658347777718153758388793625308858889862688420379409432567779059390789082817395180203456712583778410007363696082386041315385468980489595243223928866972077071984185660275078960673680956011165595286609972073732890413023985122254005321652033021306943082751710513392601490260103549601305543529605636685786814295625672242402384979548616073401786068450529380897826505081658409704859680998261757991579389104205768482689495219117136477099924312327387517150639755078610577477200084649529978364019110942233205381030609754111703024939584018454253250466177214864228369442 (by refine bk b1 ?_ ?_ <;> kernel_rfl) (by refine bk b1 ?_ ?_ <;> kernel_rfl) ?_
  refine GoX.cutF [0, 1, 2, 3, 4, 5, 6, 7, 8, 9, 10, 11, 12, 13, 20, 27] (fun S => sD1 ⟨⟨w0, b1, true, sa, b, t0, its, n0, [], its'⟩, u, acc, na⟩ (T1.of 20 27 (turn + 1) tu' ia (0 + 1) m S.T) S.p S.nx S.tk) (by refine bk b1 ?_ ?_ <;> kernel_rfl) (by refine bk b1 ?_ ?_ <;> kernel_rfl) (by refine bk b1 ?_ ?_ <;> kernel_rfl) (by decide) (by refine bk b1 ?_ ?_ <;> kernel_rfl) ?_
  refine next _ _ _ _ ?_ ?_ ?_ ?_ ?_ ?_
  · rfl
  · rfl
  · rfl
  · refine bk b1 ?_ ?_ <;> kernel_rfl
  · refine bk b1 ?_ ?_ <;> kernel_rfl
  · refine bk b1 ?_ ?_ <;> kernel_rfl
theorem wkF_posi_0_bf (turn : Int) (tu ia m : Nat) (p : Pos) (nx tk : Nat) (kv : Int) (tv : Nat) (n tu' ta v nx' tk' : Nat) (hW : WholeOf (Dw.toLw ⟨⟨w0, b1, false, sa, b, t0, its, n0, [], its'⟩, u, acc, na⟩).w d os (.int kv tv) fun u => .int (.ofNat (n + 1)) u)
    (next : ∀ (X : T1) (p : Pos) (nx tk : Nat), X.ia = ia → X.turn = turn + 1 → X.m = m → X.rs.length = 1 → X.os.length = 1 → X.sl = ⟨[]⟩ → GoX (vb (VD ⟨⟨w0, b1, false, sa, b, t0, its, n0, [], its'⟩, u, acc, na⟩ ia) h₀ R₁ d os) (sD1 ⟨⟨w0, b1, false, sa, b, t0, its, n0, [], its'⟩, u, acc, na⟩ X p nx tk)) :
    GoX (vb (VD ⟨⟨w0, b1, false, sa, b, t0, its, n0, [], its'⟩, u, acc, na⟩ ia) h₀ R₁ d os) (hdB (VD ⟨⟨w0, b1, false, sa, b, t0, its, n0, [], its'⟩, u, acc, na⟩ ia) (sD0 ⟨⟨w0, b1, false, sa, b, t0, its, n0, [], its'⟩, u, acc, na⟩ turn tu ia 0 (m + 1) p nx tk) 14 402654723 ia 0 m (b + 11) (b + 7) turn tu' ta (.int kv tv) (.int (.ofNat (n + 1)) v) 15 nx' tk') := by
  refine sx (by show 1 ≤ 2; decide) 239 19788016447484527650648355064225746895457161532330238663344106800840960289844003490777347384000754437199235690737491575606518173853988260802246095429351567044280723142425814918942679380533137930747546967828108427325823248800429105010316544440137874499314419091567138239405324245147664 (by refine bk b1 ?_ ?_ <;> kernel_rfl) (by refine bk b1 ?_ ?_ <;> kernel_rfl) ?_
  refine GoX.call (.call (.ref 177) ⟨[.int kv tv, .int 32 520], []⟩) none (by refine bk b1 ?_ ?_ <;> kernel_rfl) AX rfl (by refine bk b1 ?_ ?_ <;> kernel_rfl) ?_
  intro h D
  refine hW h _ _ D.known fun uu h2 t2 F => ?_
  refine GoX.fromB 34 (P := (Dw.toLw ⟨⟨w0, b1, false, sa, b, t0, its, n0, [], its'⟩, u, acc, na⟩).w.params) (by refine bk b1 ?_ ?_ <;> kernel_rfl) (D.step F rfl) fun q => ?_
  refine sx (by show 1 ≤ 2; decide) 1017 259464704678581606325585744686381241199043486183752519992456733515027214767848306734580414182411659374137864417898250991629870666634838019739308981203266942092706222003756814122686647031306019495584586709614658270059617724278016542602652360699999638100612153720453330427753140492943204489873779411028966337925441850599496448179269090811499122270734455018674765915627083266208719529305941826884145206174371031159852637883453501904973066996923330268643404792199129588273107124136041937738713048197181300076988709492184215947144210155547701985826500400289555873046430104089073984014811622238201016450952893893917275944723787194934323963942636226246242469947097000189145978610628867622400460217214315629940991085907948876621205320186799615859495132162951711484579712889793920162164642192562174745806666643834939157913729201788575171079498089949015378679147077189807674405224298370988226623627646659023790061751688040978605424852861409894787944135140044702427664979796083961938408831548351308873929540353485416375633664119197154544755482082863196519453745412750414260980384310915781840124371026948867441539125101602 (by refine bk b1 ?_ ?_ <;> kernel_rfl) (by refine bk b1 ?_ ?_ <;> kernel_rfl) ?_
  refine GoX.cutF [0, 1, 2, 3, 4, 5, 6, 7, 8, 9, 10, 11, 12, 13, 20, 27] (fun S => sD1 ⟨⟨w0, b1, false, sa, b, t0, its, n0, [], its'⟩, u, acc, na⟩ (T1.of 20 27 (turn + 1) tu' ia (0 + 1) m S.T) S.p S.nx S.tk) (by refine bk b1 ?_ ?_ <;> kernel_rfl) (by refine bk b1 ?_ ?_ <;> kernel_rfl) (by refine bk b1 ?_ ?_ <;> kernel_rfl) (by decide) (by refine bk b1 ?_ ?_ <;> kernel_rfl) ?_
  refine next _ _ _ _ ?_ ?_ ?_ ?_ ?_ ?_
  · rfl
  · rfl
  · rfl
  · refine bk b1 ?_ ?_ <;> kernel_rfl
  · refine bk b1 ?_ ?_ <;> kernel_rfl
  · refine bk b1 ?_ ?_ <;> kernel_rfl
theorem wkF_posi_0_bt (turn : Int) (tu ia m : Nat) (p : Pos) (nx tk : Nat) (kv : Int) (tv : Nat) (n tu' ta v nx' tk' : Nat) (hW : WholeOf (Dw.toLw ⟨⟨w0, b1, true, sa, b, t0, its, n0, [], its'⟩, u, acc, na⟩).w d os (.int kv tv) fun u => .int (.ofNat (n + 1)) u)
    (next : ∀ (X : T1) (p : Pos) (nx tk : Nat), X.ia = ia → X.turn = turn + 1 → X.m = m → X.rs.length = 1 → X.os.length = 1 → X.sl = ⟨[]⟩ → GoX (vb (VD ⟨⟨w0, b1, true, sa, b, t0, its, n0, [], its'⟩, u, acc, na⟩ ia) h₀ R₁ d os) (sD1 ⟨⟨w0, b1, true, sa, b, t0, its, n0, [], its'⟩, u, acc, na⟩ X p nx tk)) :
    GoX (vb (VD ⟨⟨w0, b1, true, sa, b, t0, its, n0, [], its'⟩, u, acc, na⟩ ia) h₀ R₁ d os) (hdB (VD ⟨⟨w0, b1, true, sa, b, t0, its, n0, [], its'⟩, u, acc, na⟩ ia) (sD0 ⟨⟨w0, b1, true, sa, b, t0, its, n0, [], its'⟩, u, acc, na⟩ turn tu ia 0 (m + 1) p nx tk) 14 402654723 ia 0 m (b + 11) (b + 7) turn tu' ta (.int kv tv) (.int (.ofNat (n + 1)) v) 15 nx' tk') := by
  refine sx (by show 1 ≤ 2; decide) 239 19788016447484527650648355064225746895457161532330238663344106800840960289844003490777347384000754437199235690737491575606518173853988260802246095429351567044280723142425814918942679380533137930747546967828108427325823248800429105010316544440137874499314419091567138239405324245147664 (by refine bk b1 ?_ ?_ <;> kernel_rfl) (by refine bk b1 ?_ ?_ <;> kernel_rfl) ?_
  refine GoX.call (.call (.ref 177) ⟨[.int kv tv, .int 32 520], []⟩) none (by refine bk b1 ?_ ?_ <;> kernel_rfl) AX rfl (by refine bk b1 ?_ ?_ <;> kernel_rfl) ?_
  intro h D
  refine hW h _ _ D.known fun uu h2 t2 F => ?_
  refine GoX.fromB 34 (P := (Dw.toLw ⟨⟨w0, b1, true, sa, b, t0, its, n0, [], its'⟩, u, acc, na⟩).w.params) (by refine bk b1 ?_ ?_ <;> kernel_rfl) (D.step F rfl) fun q => ?_
  refine sx (by show 1 ≤ 2; decide) 997 54943788378091407040495050203100396378668434266869147437446932289767032643455521848951393838096686593899387620428456123058436743838112843133743664943042069110812433159982422343285642691247538734878289850119978554599820904565728723188125741729567188009802622485680839171560936132262359764319255524025277285069221597935231686131238710320540436728612336076971910828166655526727557365350480175274509355246511934618408675157883078796135583447137382587997111612565073244845462386418936485710362303029013838553189032603220754484982554122658347777718153758388793625308858889862688420379409432567779059390789082817395180203456712583778410007363696082386041315385468980489595243223928866972077071984185660275078960673680956011165595286609972073732890413023985122254005321652033021306943082751710513392601490260103549601305543529605636685786814295625672242402384979548616073401786068450529380897826505081658409704859680998261757991579389104205768482689495219117136477099924312327387517150639755078610577477200084649529978364019110942233205381030609754111703024939584018454253250466177214864228369442 (by refine bk b1 ?_ ?_ <;> kernel_rfl) (by refine bk b1 ?_ ?_ <;> kernel_rfl) ?_
  refine GoX.cutF [0, 1, 2, 3, 4, 5, 6, 7, 8, 9, 10, 11, 12, 13, 20, 27] (fun S => sD1 ⟨⟨w0, b1, true, sa, b, t0, its, n0, [], its'⟩, u, acc, na⟩ (T1.of 20 27 (turn + 1) tu' ia (0 + 1) m S.T) S.p S.nx S.tk) (by refine bk b1 ?_ ?_ <;> kernel_rfl) (by refine bk b1 ?_ ?_ <;> kernel_rfl) (by refine bk b1 ?_ ?_ <;> kernel_rfl) (by decide) (by refine bk b1 ?_ ?_ <;> kernel_rfl) ?_
  refine next _ _ _ _ ?_ ?_ ?_ ?_ ?_ ?_
  · rfl
  · rfl
  · rfl
  · refine bk b1 ?_ ?_ <;> kernel_rfl
  · refine bk b1 ?_ ?_ <;> kernel_rfl
  · refine bk b1 ?_ ?_ <;> kernel_rfl
theorem wkF_neg_0_bf (turn : Int) (tu ia m : Nat) (p : Pos) (nx tk : Nat) (xv : Str) (tv : Nat) (tu' ta v nx' tk' : Nat) (hW : WholeOf (Dw.toLw ⟨⟨w0, b1, false, sa, b, t0, its, n0, [], its'⟩, u, acc, na⟩).w d os (.str xv tv) fun u => .int (-3) u)
    (next : ∀ (X : T1) (p : Pos) (nx tk : Nat), X.ia = ia → X.turn = turn + 1 → X.m = m → X.rs.length = 1 → X.os.length = 1 → X.sl = ⟨[]⟩ → GoX (vb (VD ⟨⟨w0, b1, false, sa, b, t0, its, n0, [], its'⟩, u, acc, na⟩ ia) h₀ R₁ d os) (sD1 ⟨⟨w0, b1, false, sa, b, t0, its, n0, [], its'⟩, u, acc, na⟩ X p nx tk)) :
    GoX (vb (VD ⟨⟨w0, b1, false, sa, b, t0, its, n0, [], its'⟩, u, acc, na⟩ ia) h₀ R₁ d os) (hdB (VD ⟨⟨w0, b1, false, sa, b, t0, its, n0, [], its'⟩, u, acc, na⟩ ia) (sD0 ⟨⟨w0, b1, false, sa, b, t0, its, n0, [], its'⟩, u, acc, na⟩ turn tu ia 0 (m + 1) p nx tk) 14 402654723 ia 0 m (b + 11) (b + 7) turn tu' ta (.str xv tv) (.int (-3) v) 15 nx' tk') := by
  refine sx (by show 1 ≤ 2; decide) 239 19788016447484527650648355064225746895457161532330238663344106800840960289844003490777347384000754437199235690737491575606518173853988260802246095429351567044280723142425814918942679380533137930747546967828108427325823248800429105010316544440137874499314419091567138239405324245147664 (by refine bk b1 ?_ ?_ <;> kernel_rfl) (by refine bk b1 ?_ ?_ <;> kernel_rfl) ?_
  refine GoX.call (.call (.ref 177) ⟨[.str xv tv, .int 32 520], []⟩) none (by refine bk b1 ?_ ?_ <;> kernel_rfl) AX rfl (by refine bk b1 ?_ ?_ <;> kernel_rfl) ?_
  intro h D
  refine hW h _ _ D.known fun uu h2 t2 F => ?_
  refine GoX.fromB 34 (P := (Dw.toLw ⟨⟨w0, b1, false, sa, b, t0, its, n0, [], its'⟩, u, acc, na⟩).w.params) (by refine bk b1 ?_ ?_ <;> kernel_rfl) (D.step F rfl) fun q => ?_
  refine sx (by show 1 ≤ 2; decide) 1017 259464704678581606325585744686381241199043486183752519992456733515027214767848306734580414182411659374137864417898250991629870666634838019739308981203266942092706222003756814122686647031306019495584586709614658270059617724278016542602652360699999638100612153720453330427753140492943204489873779411028966337925441850599496448179269090811499122270734455018674765915627083266208719529305941826884145206174371031159852637883453501904973066996923330268643404792199129588273107124136041937738713048197181300076988709492184215947144210155547701985826500400289555873046430104089073984014811622238201016450952893893917275944723787194934323963942636226246242469947097000189145978610628867622400460217214315629940991085907948876621205320186799615859495132162951711484579712889793920162164642192562174745806666643834939157913729201788575171079498089949015378679147077189807674405224298370988226623627646659023790061751688040978605424852861409894787944135140044702427664979796083961938408831548351308873929540353485416375633664119197154544755482082863196519453745412750414260980384310915781840124371026948867441539125101602 (by refine bk b1 ?_ ?_ <;> kernel_rfl) (by refine bk b1 ?_ ?_ <;> kernel_rfl) ?_
  refine GoX.cutF [0, 1, 2, 3, 4, 5, 6, 7, 8, 9, 10, 11, 12, 13, 20, 27] (fun S => sD1 ⟨⟨w0, b1, false, sa, b, t0, its, n0, [], its'⟩, u, acc, na⟩ (T1.of 20 27 (turn + 1) tu' ia (0 + 1) m S.T) S.p S.nx S.tk) (by refine bk b1 ?_ ?_ <;> kernel_rfl) (by refine bk b1 ?_ ?_ <;> kernel_rfl) (by refine bk b1 ?_ ?_ <;> kernel_rfl) (by decide) (by refine bk b1 ?_ ?_ <;> kernel_rfl) ?_
  refine next _ _ _ _ ?_ ?_ ?_ ?_ ?_ ?_
  · rfl
  · rfl
  · rfl
  · refine bk b1 ?_ ?_ <;> kernel_rfl
  · refine bk b1 ?_ ?_ <;> kernel_rfl
  · refine bk b1 ?_ ?_ <;> kernel_rfl
theorem wkF_neg_0_bt (turn : Int) (tu ia m : Nat) (p : Pos) (nx tk : Nat) (xv : Str) (tv : Nat) (tu' ta v nx' tk' : Nat) (hW : WholeOf (Dw.toLw ⟨⟨w0, b1, true, sa, b, t0, its, n0, [], its'⟩, u, acc, na⟩).w d os (.str xv tv) fun u => .int (-3) u)
    (next : ∀ (X : T1) (p : Pos) (nx tk : Nat), X.ia = ia → X.turn = turn + 1 → X.m = m → X.rs.length = 1 → X.os.length = 1 → X.sl = ⟨[]⟩ → GoX (vb (VD ⟨⟨w0, b1, true, sa, b, t0, its, n0, [], its'⟩, u, acc, na⟩ ia) h₀ R₁ d os) (sD1 ⟨⟨w0, b1, true, sa, b, t0, its, n0, [], its'⟩, u, acc, na⟩ X p nx tk)) :
    GoX (vb (VD ⟨⟨w0, b1, true, sa, b, t0, its, n0, [], its'⟩, u, acc, na⟩ ia) h₀ R₁ d os) (hdB (VD ⟨⟨w0, b1, true, sa, b, t0, its, n0, [], its'⟩, u, acc, na⟩ ia) (sD0 ⟨⟨w0, b1, true, sa, b, t0, its, n0, [], its'⟩, u, acc, na⟩ turn tu ia 0 (m + 1) p nx tk) 14 402654723 ia 0 m (b + 11) (b + 7) turn tu' ta (.str xv tv) (.int (-3) v) 15 nx' tk') := by
  refine sx (by show 1 ≤ 2; decide) 239 19788016447484527650648355064225746895457161532330238663344106800840960289844003490777347384000754437199235690737491575606518173853988260802246095429351567044280723142425814918942679380533137930747546967828108427325823248800429105010316544440137874499314419091567138239405324245147664 (by refine bk b1 ?_ ?_ <;> kernel_rfl) (by refine bk b1 ?_ ?_ <;> kernel_rfl) ?_
  refine GoX.call (.call (.ref 177) ⟨[.str xv tv, .int 32 520], []⟩) none (by refine bk b1 ?_ ?_ <;> kernel_rfl) AX rfl (by refine bk b1 ?_ ?_ <;> kernel_rfl) ?_
  intro h D
  refine hW h _ _ D.known fun uu h2 t2 F => ?_
  refine GoX.fromB 34 (P := (Dw.toLw ⟨⟨w0, b1, true, sa, b, t0, its, n0, [], its'⟩, u, acc, na⟩).w.params) (by refine bk b1 ?_ ?_ <;> kernel_rfl) (D.step F rfl) fun q => ?_
  refine sx (by show 1 ≤ 2; decide) 997 54943788378091407040495050203100396378668434266869147437446932289767032643455521848951393838096686593899387620428456123058436743838112843133743664943042069110812433159982422343285642691247538734878289850119978554599820904565728723188125741729567188009802622485680839171560936132262359764319255524025277285069221597935231686131238710320540436728612336076971910828166655526727557365350480175274509355246511934618408675157883078796135583447137382587997111612565073244845462386418936485710362303029013838553189032603220754484982554122658347777718153758388793625308858889862688420379409432567779059390789082817395180203456712583778410007363696082386041315385468980489595243223928866972077071984185660275078960673680956011165595286609972073732890413023985122254005321652033021306943082751710513392601490260103549601305543529605636685786814295625672242402384979548616073401786068450529380897826505081658409704859680998261757991579389104205768482689495219117136477099924312327387517150639755078610577477200084649529978364019110942233205381030609754111703024939584018454253250466177214864228369442 (by refine bk b1 ?_ ?_ <;> kernel_rfl) (by refine bk b1 ?_ ?_ <;> kernel_rfl) ?_
  refine GoX.cutF [0, 1, 2, 3, 4, 5, 6, 7, 8, 9, 10, 11, 12, 13, 20, 27] (fun S => sD1 ⟨⟨w0, b1, true, sa, b, t0, its, n0, [], its'⟩, u, acc, na⟩ (T1.of 20 27 (turn + 1) tu' ia (0 + 1) m S.T) S.p S.nx S.tk) (by refine bk b1 ?_ ?_ <;> kernel_rfl) (by refine bk b1 ?_ ?_ <;> kernel_rfl) (by refine bk b1 ?_ ?_ <;> kernel_rfl) (by decide) (by refine bk b1 ?_ ?_ <;> kernel_rfl) ?_
  refine next _ _ _ _ ?_ ?_ ?_ ?_ ?_ ?_
  · rfl
  · rfl
  · rfl
  · refine bk b1 ?_ ?_ <;> kernel_rfl
  · refine bk b1 ?_ ?_ <;> kernel_rfl
  · refine bk b1 ?_ ?_ <;> kernel_rfl
end
end Mine
end
section
namespace Mine
section
variable (h₀ : Heap) (R₁ : Result → Shared → Prop) (d : Drawn) (os : OsState) (w0 : World) (b1 b2 : Bool) (sa b t0 : Nat) (its : List Value) (n0 : Nat) (its' : List Value) (u : Nat) (acc : List Value) (na : Nat)
theorem wkU_none_0 (turn : Int) (tu ia j m lc : Nat) (x0 : Value) (tq : Nat) (rest : List Value) (ra nr : Nat) (no : Nat) (cv : Value) (k1 : Nat) (v1 : Value) (k2 : Nat) (v2 : Value) (p : Pos) (nx tk : Nat) (xv : Str) (tv : Nat) (tu' ta v nx' tk' : Nat) (hW : WholeOf (Dw.toLw ⟨⟨w0, b1, b2, sa, b, t0, its, n0, [], its'⟩, u, acc, na⟩).w d os (.str xv tv) fun u => .none)
    (next : ∀ (X : T1) (p : Pos) (nx tk : Nat), X.ia = ia → X.turn = turn + 1 → X.m = m → X.rs.length = 0 → X.os.length = 0 → X.sl = (slS b) → GoX (vb (VD ⟨⟨w0, b1, b2, sa, b, t0, its, n0, [], its'⟩, u, acc, na⟩ ia) h₀ R₁ d os) (sD1 ⟨⟨w0, b1, b2, sa, b, t0, its, n0, [], its'⟩, u, acc, na⟩ X p nx tk)) :
    GoX (vb (VD ⟨⟨w0, b1, b2, sa, b, t0, its, n0, [], its'⟩, u, acc, na⟩ ia) h₀ R₁ d os) (hdB (VD ⟨⟨w0, b1, b2, sa, b, t0, its, n0, [], its'⟩, u, acc, na⟩ ia) (sD1 ⟨⟨w0, b1, b2, sa, b, t0, its, n0, [], its'⟩, u, acc, na⟩ ⟨turn, tu, ia, j, m + 1, lc, x0, tq, rest, ra, nr, [], no, [], cv, k1, v1, k2, v2, ⟨[]⟩⟩ p nx tk) 14 402654723 ia j m (b + 11) (b + 7) turn tu' ta (.str xv tv) (.none) 16 nx' tk') := by
  refine sx (by show 1 ≤ 2; decide) 213 245607429369364443062531703986609243406496315570499108034714547417070631840344967993219731134633916682284646655122920096449512463530151782336571601477016369988682896531329378000704368547131537534212956596336611847076112434476768426363802205088557826828419882110361536832017 (by refine bk b1 ?_ ?_ <;> kernel_rfl) (by refine bk b1 ?_ ?_ <;> kernel_rfl) ?_
  refine GoX.call (.call (.ref 177) ⟨[.str xv tv, .int 32 520], []⟩) none (by refine bk b1 ?_ ?_ <;> kernel_rfl) AX rfl (by refine bk b1 ?_ ?_ <;> kernel_rfl) ?_
  intro h D
  refine hW h _ _ D.known fun uu h2 t2 F => ?_
  refine GoX.fromB 29 (P := (Dw.toLw ⟨⟨w0, b1, b2, sa, b, t0, its, n0, [], its'⟩, u, acc, na⟩).w.params) (by refine bk b1 ?_ ?_ <;> kernel_rfl) (D.step F rfl) fun q => ?_
  refine sx (by show 1 ≤ 2; decide) 386 11386716889984687750780133190814805818425738157907395982334079647214064311304302939994041132739200001896860235165141847307735357455658796971064501642710692862737711375652631349700060597473811137554205088335780321452417424365815934410024681865124399823354251137485647689758829114066359876329922810092126102768384170413758627428383700785649175903213196224261661621227567255715512387551935728081221752166347777281874556359967190515111891062731943964090953825083611257626849239364477392736921649345227637344159952014861021070357849104130747092120371033899980412899305508850161455963530207417802858234789166740408094013274653 (by refine bk b1 ?_ ?_ <;> kernel_rfl) (by refine bk b1 ?_ ?_ <;> kernel_rfl) ?_
  refine GoX.cutF [0, 1, 2, 3, 4, 5, 6, 7, 8, 9, 10, 11, 12, 13, 21, 15] (fun S => sD1 ⟨⟨w0, b1, b2, sa, b, t0, its, n0, [], its'⟩, u, acc, na⟩ (T1.of 21 15 (turn + 1) tu' ia (j + 1) m S.T) S.p S.nx S.tk) (by refine bk b1 ?_ ?_ <;> kernel_rfl) (by refine bk b1 ?_ ?_ <;> kernel_rfl) (by refine bk b1 ?_ ?_ <;> kernel_rfl) (by decide) (by refine bk b1 ?_ ?_ <;> kernel_rfl) ?_
  refine next _ _ _ _ ?_ ?_ ?_ ?_ ?_ ?_
  · rfl
  · rfl
  · rfl
  · refine bk b1 ?_ ?_ <;> kernel_rfl
  · refine bk b1 ?_ ?_ <;> kernel_rfl
  · refine bk b1 ?_ ?_ <;> kernel_rfl
theorem wkU_none_1 (turn : Int) (tu ia j m lc : Nat) (x0 : Value) (tq : Nat) (rest : List Value) (ra nr : Nat) (a1 e1 f1 g1 : Nat) (no : Nat) (cv : Value) (k1 : Nat) (v1 : Value) (k2 : Nat) (v2 : Value) (p : Pos) (nx tk : Nat) (xv : Str) (tv : Nat) (tu' ta v nx' tk' : Nat) (hW : WholeOf (Dw.toLw ⟨⟨w0, b1, b2, sa, b, t0, its, n0, [], its'⟩, u, acc, na⟩).w d os (.str xv tv) fun u => .none)
    (next : ∀ (X : T1) (p : Pos) (nx tk : Nat), X.ia = ia → X.turn = turn + 1 → X.m = m → X.rs.length = 1 → X.os.length = 1 → X.sl = (slS b) → GoX (vb (VD ⟨⟨w0, b1, b2, sa, b, t0, its, n0, [], its'⟩, u, acc, na⟩ ia) h₀ R₁ d os) (sD1 ⟨⟨w0, b1, b2, sa, b, t0, its, n0, [], its'⟩, u, acc, na⟩ X p nx tk)) :
    GoX (vb (VD ⟨⟨w0, b1, b2, sa, b, t0, its, n0, [], its'⟩, u, acc, na⟩ ia) h₀ R₁ d os) (hdB (VD ⟨⟨w0, b1, b2, sa, b, t0, its, n0, [], its'⟩, u, acc, na⟩ ia) (sD1 ⟨⟨w0, b1, b2, sa, b, t0, its, n0, [], its'⟩, u, acc, na⟩ ⟨turn, tu, ia, j, m + 1, lc, x0, tq, rest, ra, nr, [(a1, e1)], no, [(f1, g1)], cv, k1, v1, k2, v2, ⟨[]⟩⟩ p nx tk) 14 402654723 ia j m (b + 11) (b + 7) turn tu' ta (.str xv tv) (.none) 16 nx' tk') := by
  refine sx (by show 1 ≤ 2; decide) 213 245607429369364443062531703986609243406496315570499108034714547417070631840344967993219731134633916682284646655122920096449512463530151782336571601477016369988682896531329378000704368547131537534212956596336611847076112434476768426363802205088557826828419882110361536832017 (by refine bk b1 ?_ ?_ <;> kernel_rfl) (by refine bk b1 ?_ ?_ <;> kernel_rfl) ?_
  refine GoX.call (.call (.ref 177) ⟨[.str xv tv, .int 32 520], []⟩) none (by refine bk b1 ?_ ?_ <;> kernel_rfl) AX rfl (by refine bk b1 ?_ ?_ <;> kernel_rfl) ?_
  intro h D
  refine hW h _ _ D.known fun uu h2 t2 F => ?_
  refine GoX.fromB 29 (P := (Dw.toLw ⟨⟨w0, b1, b2, sa, b, t0, its, n0, [], its'⟩, u, acc, na⟩).w.params) (by refine bk b1 ?_ ?_ <;> kernel_rfl) (D.step F rfl) fun q => ?_
  refine sx (by show 1 ≤ 2; decide) 386 11386716889984687750780133190814805818425738157907395982334079647214064311304302939994041132739200001896860235165141847307735357455658796971064501642710692862737711375652631349700060597473811137554205088335780321452417424365815934410024681865124399823354251137485647689758829114066359876329922810092126102768384170413758627428383700785649175903213196224261661621227567255715512387551935728081221752166347777281874556359967190515111891062731943964090953825083611257626849239364477392736921649345227637344159952014861021070357849104130747092120371033899980412899305508850161455963530207417802858234789166740408094013274653 (by refine bk b1 ?_ ?_ <;> kernel_rfl) (by refine bk b1 ?_ ?_ <;> kernel_rfl) ?_
  refine GoX.cutF [0, 1, 2, 3, 4, 5, 6, 7, 8, 9, 10, 11, 12, 13, 21, 15] (fun S => sD1 ⟨⟨w0, b1, b2, sa, b, t0, its, n0, [], its'⟩, u, acc, na⟩ (T1.of 21 15 (turn + 1) tu' ia (j + 1) m S.T) S.p S.nx S.tk) (by refine bk b1 ?_ ?_ <;> kernel_rfl) (by refine bk b1 ?_ ?_ <;> kernel_rfl) (by refine bk b1 ?_ ?_ <;> kernel_rfl) (by decide) (by refine bk b1 ?_ ?_ <;> kernel_rfl) ?_
  refine next _ _ _ _ ?_ ?_ ?_ ?_ ?_ ?_
  · rfl
  · rfl
  · rfl
  · refine bk b1 ?_ ?_ <;> kernel_rfl
  · refine bk b1 ?_ ?_ <;> kernel_rfl
  · refine bk b1 ?_ ?_ <;> kernel_rfl
theorem wkU_none_2 (turn : Int) (tu ia j m lc : Nat) (x0 : Value) (tq : Nat) (rest : List Value) (ra nr : Nat) (a1 e1 f1 g1 : Nat) (a2 e2 f2 g2 : Nat) (no : Nat) (cv : Value) (k1 : Nat) (v1 : Value) (k2 : Nat) (v2 : Value) (p : Pos) (nx tk : Nat) (xv : Str) (tv : Nat) (tu' ta v nx' tk' : Nat) (hW : WholeOf (Dw.toLw ⟨⟨w0, b1, b2, sa, b, t0, its, n0, [], its'⟩, u, acc, na⟩).w d os (.str xv tv) fun u => .none)
    (next : ∀ (X : T1) (p : Pos) (nx tk : Nat), X.ia = ia → X.turn = turn + 1 → X.m = m → X.rs.length = 2 → X.os.length = 2 → X.sl = (slS b) → GoX (vb (VD ⟨⟨w0, b1, b2, sa, b, t0, its, n0, [], its'⟩, u, acc, na⟩ ia) h₀ R₁ d os) (sD1 ⟨⟨w0, b1, b2, sa, b, t0, its, n0, [], its'⟩, u, acc, na⟩ X p nx tk)) :
    GoX (vb (VD ⟨⟨w0, b1, b2, sa, b, t0, its, n0, [], its'⟩, u, acc, na⟩ ia) h₀ R₁ d os) (hdB (VD ⟨⟨w0, b1, b2, sa, b, t0, its, n0, [], its'⟩, u, acc, na⟩ ia) (sD1 ⟨⟨w0, b1, b2, sa, b, t0, its, n0, [], its'⟩, u, acc, na⟩ ⟨turn, tu, ia, j, m + 1, lc, x0, tq, rest, ra, nr, [(a1, e1), (a2, e2)], no, [(f1, g1), (f2, g2)], cv, k1, v1, k2, v2, ⟨[]⟩⟩ p nx tk) 14 402654723 ia j m (b + 11) (b + 7) turn tu' ta (.str xv tv) (.none) 16 nx' tk') := by
  refine sx (by show 1 ≤ 2; decide) 213 245607429369364443062531703986609243406496315570499108034714547417070631840344967993219731134633916682284646655122920096449512463530151782336571601477016369988682896531329378000704368547131537534212956596336611847076112434476768426363802205088557826828419882110361536832017 (by refine bk b1 ?_ ?_ <;> kernel_rfl) (by refine bk b1 ?_ ?_ <;> kernel_rfl) ?_
  refine GoX.call (.call (.ref 177) ⟨[.str xv tv, .int 32 520], []⟩) none (by refine bk b1 ?_ ?_ <;> kernel_rfl) AX rfl (by refine bk b1 ?_ ?_ <;> kernel_rfl) ?_
  intro h D
  refine hW h _ _ D.known fun uu h2 t2 F => ?_
  refine GoX.fromB 29 (P := (Dw.toLw ⟨⟨w0, b1, b2, sa, b, t0, its, n0, [], its'⟩, u, acc, na⟩).w.params) (by refine bk b1 ?_ ?_ <;> kernel_rfl) (D.step F rfl) fun q => ?_
  refine sx (by show 1 ≤ 2; decide) 386 11386716889984687750780133190814805818425738157907395982334079647214064311304302939994041132739200001896860235165141847307735357455658796971064501642710692862737711375652631349700060597473811137554205088335780321452417424365815934410024681865124399823354251137485647689758829114066359876329922810092126102768384170413758627428383700785649175903213196224261661621227567255715512387551935728081221752166347777281874556359967190515111891062731943964090953825083611257626849239364477392736921649345227637344159952014861021070357849104130747092120371033899980412899305508850161455963530207417802858234789166740408094013274653 (by refine bk b1 ?_ ?_ <;> kernel_rfl) (by refine bk b1 ?_ ?_ <;> kernel_rfl) ?_
  refine GoX.cutF [0, 1, 2, 3, 4, 5, 6, 7, 8, 9, 10, 11, 12, 13, 21, 15] (fun S => sD1 ⟨⟨w0, b1, b2, sa, b, t0, its, n0, [], its'⟩, u, acc, na⟩ (T1.of 21 15 (turn + 1) tu' ia (j + 1) m S.T) S.p S.nx S.tk) (by refine bk b1 ?_ ?_ <;> kernel_rfl) (by refine bk b1 ?_ ?_ <;> kernel_rfl) (by refine bk b1 ?_ ?_ <;> kernel_rfl) (by decide) (by refine bk b1 ?_ ?_ <;> kernel_rfl) ?_
  refine next _ _ _ _ ?_ ?_ ?_ ?_ ?_ ?_
  · rfl
  · rfl
  · rfl
  · refine bk b1 ?_ ?_ <;> kernel_rfl
  · refine bk b1 ?_ ?_ <;> kernel_rfl
  · refine bk b1 ?_ ?_ <;> kernel_rfl
theorem wkS_none_0 (turn : Int) (tu ia j m lc : Nat) (x0 : Value) (tq : Nat) (rest : List Value) (ra nr : Nat) (no : Nat) (cv : Value) (k1 : Nat) (v1 : Value) (k2 : Nat) (v2 : Value) (p : Pos) (nx tk : Nat) (xv : Str) (tv : Nat) (tu' ta v nx' tk' : Nat) (hW : WholeOf (Dw.toLw ⟨⟨w0, b1, b2, sa, b, t0, its, n0, [], its'⟩, u, acc, na⟩).w d os (.str xv tv) fun u => .none)
    (next : ∀ (X : T1) (p : Pos) (nx tk : Nat), X.ia = ia → X.turn = turn + 1 → X.m = m → X.rs.length = 0 → X.os.length = 0 → X.sl = (slS b) → GoX (vb (VD ⟨⟨w0, b1, b2, sa, b, t0, its, n0, [], its'⟩, u, acc, na⟩ ia) h₀ R₁ d os) (sD1 ⟨⟨w0, b1, b2, sa, b, t0, its, n0, [], its'⟩, u, acc, na⟩ X p nx tk)) :
    GoX (vb (VD ⟨⟨w0, b1, b2, sa, b, t0, its, n0, [], its'⟩, u, acc, na⟩ ia) h₀ R₁ d os) (hdB (VD ⟨⟨w0, b1, b2, sa, b, t0, its, n0, [], its'⟩, u, acc, na⟩ ia) (sD1 ⟨⟨w0, b1, b2, sa, b, t0, its, n0, [], its'⟩, u, acc, na⟩ ⟨turn, tu, ia, j, m + 1, lc, x0, tq, rest, ra, nr, [], no, [], cv, k1, v1, k2, v2, (slS b)⟩ p nx tk) 14 402654723 ia j m (b + 11) (b + 7) turn tu' ta (.str xv tv) (.none) 16 nx' tk') := by
  refine sx (by show 1 ≤ 2; decide) 213 245607429369364443062531703986609243406496315570499108034714547417070631840344967993219731134633916682284646655122920096449512463530151782336571601477016369988682896531329378000704368547131537534212956596336611847076112434476768426363802205088557826828419882110361536832017 (by refine bk b1 ?_ ?_ <;> kernel_rfl) (by refine bk b1 ?_ ?_ <;> kernel_rfl) ?_
  refine GoX.call (.call (.ref 177) ⟨[.str xv tv, .int 32 520], []⟩) none (by refine bk b1 ?_ ?_ <;> kernel_rfl) AX rfl (by refine bk b1 ?_ ?_ <;> kernel_rfl) ?_
  intro h D
  refine hW h _ _ D.known fun uu h2 t2 F => ?_
  refine GoX.fromB 29 (P := (Dw.toLw ⟨⟨w0, b1, b2, sa, b, t0, its, n0, [], its'⟩, u, acc, na⟩).w.params) (by refine bk b1 ?_ ?_ <;> kernel_rfl) (D.step F rfl) fun q => ?_
  refine sx (by show 1 ≤ 2; decide) 384 22239681425751343263242447638310167614112769839662882777996249310964969358016216679675861587381250003704805146806917670522920620030583587834110354770919321997534592530571545604882930854441037378035556813155820940336752781964484246894579456769487102510861936232688324593918594915002151805380967717129603105718831700268193200002084598766505270409275510174976857009880962937193750060950316702379194586617064447031714448554557692853480955992091903784399110502068817419612718685775234547401170332318855613062482008970617276158163038247401948917153007810867785754453361061327321258338120230654407215627040181577726916049437 (by refine bk b1 ?_ ?_ <;> kernel_rfl) (by refine bk b1 ?_ ?_ <;> kernel_rfl) ?_
  refine GoX.cutF [0, 1, 2, 3, 4, 5, 6, 7, 8, 9, 10, 11, 12, 13, 21, 15] (fun S => sD1 ⟨⟨w0, b1, b2, sa, b, t0, its, n0, [], its'⟩, u, acc, na⟩ (T1.of 21 15 (turn + 1) tu' ia (j + 1) m S.T) S.p S.nx S.tk) (by refine bk b1 ?_ ?_ <;> kernel_rfl) (by refine bk b1 ?_ ?_ <;> kernel_rfl) (by refine bk b1 ?_ ?_ <;> kernel_rfl) (by decide) (by refine bk b1 ?_ ?_ <;> kernel_rfl) ?_
  refine next _ _ _ _ ?_ ?_ ?_ ?_ ?_ ?_
  · rfl
  · rfl
  · rfl
  · refine bk b1 ?_ ?_ <;> kernel_rfl
  · refine bk b1 ?_ ?_ <;> kernel_rfl
  · refine bk b1 ?_ ?_ <;> kernel_rfl
theorem wkS_none_1 (turn : Int) (tu ia j m lc : Nat) (x0 : Value) (tq : Nat) (rest : List Value) (ra nr : Nat) (a1 e1 f1 g1 : Nat) (no : Nat) (cv : Value) (k1 : Nat) (v1 : Value) (k2 : Nat) (v2 : Value) (p : Pos) (nx tk : Nat) (xv : Str) (tv : Nat) (tu' ta v nx' tk' : Nat) (hW : WholeOf (Dw.toLw ⟨⟨w0, b1, b2, sa, b, t0, its, n0, [], its'⟩, u, acc, na⟩).w d os (.str xv tv) fun u => .none)
    (next : ∀ (X : T1) (p : Pos) (nx tk : Nat), X.ia = ia → X.turn = turn + 1 → X.m = m → X.rs.length = 1 → X.os.length = 1 → X.sl = (slS b) → GoX (vb (VD ⟨⟨w0, b1, b2, sa, b, t0, its, n0, [], its'⟩, u, acc, na⟩ ia) h₀ R₁ d os) (sD1 ⟨⟨w0, b1, b2, sa, b, t0, its, n0, [], its'⟩, u, acc, na⟩ X p nx tk)) :
    GoX (vb (VD ⟨⟨w0, b1, b2, sa, b, t0, its, n0, [], its'⟩, u, acc, na⟩ ia) h₀ R₁ d os) (hdB (VD ⟨⟨w0, b1, b2, sa, b, t0, its, n0, [], its'⟩, u, acc, na⟩ ia) (sD1 ⟨⟨w0, b1, b2, sa, b, t0, its, n0, [], its'⟩, u, acc, na⟩ ⟨turn, tu, ia, j, m + 1, lc, x0, tq, rest, ra, nr, [(a1, e1)], no, [(f1, g1)], cv, k1, v1, k2, v2, (slS b)⟩ p nx tk) 14 402654723 ia j m (b + 11) (b + 7) turn tu' ta (.str xv tv) (.none) 16 nx' tk') := by
  refine sx (by show 1 ≤ 2; decide) 213 245607429369364443062531703986609243406496315570499108034714547417070631840344967993219731134633916682284646655122920096449512463530151782336571601477016369988682896531329378000704368547131537534212956596336611847076112434476768426363802205088557826828419882110361536832017 (by refine bk b1 ?_ ?_ <;> kernel_rfl) (by refine bk b1 ?_ ?_ <;> kernel_rfl) ?_
  refine GoX.call (.call (.ref 177) ⟨[.str xv tv, .int 32 520], []⟩) none (by refine bk b1 ?_ ?_ <;> kernel_rfl) AX rfl (by refine bk b1 ?_ ?_ <;> kernel_rfl) ?_
  intro h D
  refine hW h _ _ D.known fun uu h2 t2 F => ?_
  refine GoX.fromB 29 (P := (Dw.toLw ⟨⟨w0, b1, b2, sa, b, t0, its, n0, [], its'⟩, u, acc, na⟩).w.params) (by refine bk b1 ?_ ?_ <;> kernel_rfl) (D.step F rfl) fun q => ?_
  refine sx (by show 1 ≤ 2; decide) 384 22239681425751343263242447638310167614112769839662882777996249310964969358016216679675861587381250003704805146806917670522920620030583587834110354770919321997534592530571545604882930854441037378035556813155820940336752781964484246894579456769487102510861936232688324593918594915002151805380967717129603105718831700268193200002084598766505270409275510174976857009880962937193750060950316702379194586617064447031714448554557692853480955992091903784399110502068817419612718685775234547401170332318855613062482008970617276158163038247401948917153007810867785754453361061327321258338120230654407215627040181577726916049437 (by refine bk b1 ?_ ?_ <;> kernel_rfl) (by refine bk b1 ?_ ?_ <;> kernel_rfl) ?_
  refine GoX.cutF [0, 1, 2, 3, 4, 5, 6, 7, 8, 9, 10, 11, 12, 13, 21, 15] (fun S => sD1 ⟨⟨w0, b1, b2, sa, b, t0, its, n0, [], its'⟩, u, acc, na⟩ (T1.of 21 15 (turn + 1) tu' ia (j + 1) m S.T) S.p S.nx S.tk) (by refine bk b1 ?_ ?_ <;> kernel_rfl) (by refine bk b1 ?_ ?_ <;> kernel_rfl) (by refine bk b1 ?_ ?_ <;> kernel_rfl) (by decide) (by refine bk b1 ?_ ?_ <;> kernel_rfl) ?_
  refine next _ _ _ _ ?_ ?_ ?_ ?_ ?_ ?_
  · rfl
  · rfl
  · rfl
  · refine bk b1 ?_ ?_ <;> kernel_rfl
  · refine bk b1 ?_ ?_ <;> kernel_rfl
  · refine bk b1 ?_ ?_ <;> kernel_rfl
theorem wkU_pat_0 (turn : Int) (tu ia j m lc : Nat) (x0 : Value) (tq : Nat) (rest : List Value) (ra nr : Nat) (no : Nat) (cv : Value) (k1 : Nat) (v1 : Value) (k2 : Nat) (v2 : Value) (p : Pos) (nx tk : Nat) (pa da tu' ta nx' tk' : Nat) (hW : ∀ (h : Heap) (t : Nat) (R : Result → Shared → Prop), Known (Dw.toLw ⟨⟨w0, b1, b2, sa, b, t0, its, n0, [], its'⟩, u, acc, na⟩).w.params h → h.get? pa = some (pat da) → (kq (Dw.toLw ⟨⟨w0, b1, b2, sa, b, t0, its, n0, [], its'⟩, u, acc, na⟩).w.params).get pa = none → (∀ (uu : Nat) h' t', Aft h h' [] → R (.ok (.ret .none)) ⟨h', #[], d, t', os⟩) → codeAny (model PySem.Challenge.pw_pf0369_01 (Dw.toLw ⟨⟨w0, b1, b2, sa, b, t0, its, n0, [], its'⟩, u, acc, na⟩).w) AX (.call (.ref 177) ⟨[.ref pa, .int 32 520], []⟩) R ⟨h, #[], d, t, os⟩)
    (next : ∀ (X : T1) (p : Pos) (nx tk : Nat), X.ia = ia → X.turn = turn + 1 → X.m = m → X.rs.length = 0 → X.os.length = 0 → X.sl = (slS b) → GoX (vb (VD ⟨⟨w0, b1, b2, sa, b, t0, its, n0, [], its'⟩, u, acc, na⟩ ia) h₀ R₁ d os) (sD1 ⟨⟨w0, b1, b2, sa, b, t0, its, n0, [], its'⟩, u, acc, na⟩ X p nx tk)) :
    GoX (vb (VD ⟨⟨w0, b1, b2, sa, b, t0, its, n0, [], its'⟩, u, acc, na⟩ ia) h₀ R₁ d os) (hdP (VD ⟨⟨w0, b1, b2, sa, b, t0, its, n0, [], its'⟩, u, acc, na⟩ ia) (sD1 ⟨⟨w0, b1, b2, sa, b, t0, its, n0, [], its'⟩, u, acc, na⟩ ⟨turn, tu, ia, j, m + 1, lc, x0, tq, rest, ra, nr, [], no, [], cv, k1, v1, k2, v2, ⟨[]⟩⟩ p nx tk) 14 402654723 ia j m (b + 11) (b + 7) turn tu' ta pa da .none 16 nx' tk') := by
  refine sx (by show 1 ≤ 2; decide) 213 254076651071756320409515555848212319911219823781857123695504196475241266266470865427039851963553099551059200915404043755979666261292524447708842036110598981062519815225835067572661184921224815267951419617357946012164962939371715591043934943780236493276975229679647089500689 (by refine bk b1 ?_ ?_ <;> kernel_rfl) (by refine bk b1 ?_ ?_ <;> kernel_rfl) ?_
  refine GoX.call (.call (.ref 177) ⟨[.ref pa, .int 32 520], []⟩) none (by refine bk b1 ?_ ?_ <;> kernel_rfl) AX rfl (by refine bk b1 ?_ ?_ <;> kernel_rfl) ?_
  intro h D
  refine hW h _ _ D.known (D.own 17 pa (pat da) (by refine bk b1 ?_ ?_ <;> kernel_rfl)) (D.off 17 pa (pat da) (by refine bk b1 ?_ ?_ <;> kernel_rfl)) fun uu h2 t2 F => ?_
  refine GoX.fromB 30 (P := (Dw.toLw ⟨⟨w0, b1, b2, sa, b, t0, its, n0, [], its'⟩, u, acc, na⟩).w.params) (by refine bk b1 ?_ ?_ <;> kernel_rfl) (D.step F rfl) fun q => ?_
  refine sx (by show 1 ≤ 2; decide) 386 11903788990978151201760840696239820431418728805673038308899368852263081087394193179692623077566968610426388669065918738097199821836071217123032656470560588202995485287713346084808048352940542247920994277904123227888388224461421714995825768553978830847676774491671919000287130051457728163482808458484312191742685746137351433465563869387496670770623430854539746290348427584616841995889821028633216566946170818647076854213966726939835116707307539338956317566370947452372771741407821813724661580357150066633569520353985872289840425840289139718320292647380452241002549296381573465718702166319299704333421099276857130863836190 (by refine bk b1 ?_ ?_ <;> kernel_rfl) (by refine bk b1 ?_ ?_ <;> kernel_rfl) ?_
  refine GoX.cutF [0, 1, 2, 3, 4, 5, 6, 7, 8, 9, 10, 11, 12, 13, 22, 15] (fun S => sD1 ⟨⟨w0, b1, b2, sa, b, t0, its, n0, [], its'⟩, u, acc, na⟩ (T1.of 22 15 (turn + 1) tu' ia (j + 1) m S.T) S.p S.nx S.tk) (by refine bk b1 ?_ ?_ <;> kernel_rfl) (by refine bk b1 ?_ ?_ <;> kernel_rfl) (by refine bk b1 ?_ ?_ <;> kernel_rfl) (by decide) (by refine bk b1 ?_ ?_ <;> kernel_rfl) ?_
  refine next _ _ _ _ ?_ ?_ ?_ ?_ ?_ ?_
  · rfl
  · rfl
  · rfl
  · refine bk b1 ?_ ?_ <;> kernel_rfl
  · refine bk b1 ?_ ?_ <;> kernel_rfl
  · refine bk b1 ?_ ?_ <;> kernel_rfl
theorem wkU_pat_1 (turn : Int) (tu ia j m lc : Nat) (x0 : Value) (tq : Nat) (rest : List Value) (ra nr : Nat) (a1 e1 f1 g1 : Nat) (no : Nat) (cv : Value) (k1 : Nat) (v1 : Value) (k2 : Nat) (v2 : Value) (p : Pos) (nx tk : Nat) (pa da tu' ta nx' tk' : Nat) (hW : ∀ (h : Heap) (t : Nat) (R : Result → Shared → Prop), Known (Dw.toLw ⟨⟨w0, b1, b2, sa, b, t0, its, n0, [], its'⟩, u, acc, na⟩).w.params h → h.get? pa = some (pat da) → (kq (Dw.toLw ⟨⟨w0, b1, b2, sa, b, t0, its, n0, [], its'⟩, u, acc, na⟩).w.params).get pa = none → (∀ (uu : Nat) h' t', Aft h h' [] → R (.ok (.ret .none)) ⟨h', #[], d, t', os⟩) → codeAny (model PySem.Challenge.pw_pf0369_01 (Dw.toLw ⟨⟨w0, b1, b2, sa, b, t0, its, n0, [], its'⟩, u, acc, na⟩).w) AX (.call (.ref 177) ⟨[.ref pa, .int 32 520], []⟩) R ⟨h, #[], d, t, os⟩)
    (next : ∀ (X : T1) (p : Pos) (nx tk : Nat), X.ia = ia → X.turn = turn + 1 → X.m = m → X.rs.length = 1 → X.os.length = 1 → X.sl = (slS b) → GoX (vb (VD ⟨⟨w0, b1, b2, sa, b, t0, its, n0, [], its'⟩, u, acc, na⟩ ia) h₀ R₁ d os) (sD1 ⟨⟨w0, b1, b2, sa, b, t0, its, n0, [], its'⟩, u, acc, na⟩ X p nx tk)) :
    GoX (vb (VD ⟨⟨w0, b1, b2, sa, b, t0, its, n0, [], its'⟩, u, acc, na⟩ ia) h₀ R₁ d os) (hdP (VD ⟨⟨w0, b1, b2, sa, b, t0, its, n0, [], its'⟩, u, acc, na⟩ ia) (sD1 ⟨⟨w0, b1, b2, sa, b, t0, its, n0, [], its'⟩, u, acc, na⟩ ⟨turn, tu, ia, j, m + 1, lc, x0, tq, rest, ra, nr, [(a1, e1)], no, [(f1, g1)], cv, k1, v1, k2, v2, ⟨[]⟩⟩ p nx tk) 14 402654723 ia j m (b + 11) (b + 7) turn tu' ta pa da .none 16 nx' tk') := by
  refine sx (by show 1 ≤ 2; decide) 213 254076651071756320409515555848212319911219823781857123695504196475241266266470865427039851963553099551059200915404043755979666261292524447708842036110598981062519815225835067572661184921224815267951419617357946012164962939371715591043934943780236493276975229679647089500689 (by refine bk b1 ?_ ?_ <;> kernel_rfl) (by refine bk b1 ?_ ?_ <;> kernel_rfl) ?_
  refine GoX.call (.call (.ref 177) ⟨[.ref pa, .int 32 520], []⟩) none (by refine bk b1 ?_ ?_ <;> kernel_rfl) AX rfl (by refine bk b1 ?_ ?_ <;> kernel_rfl) ?_
  intro h D
  refine hW h _ _ D.known (D.own 17 pa (pat da) (by refine bk b1 ?_ ?_ <;> kernel_rfl)) (D.off 17 pa (pat da) (by refine bk b1 ?_ ?_ <;> kernel_rfl)) fun uu h2 t2 F => ?_
  refine GoX.fromB 30 (P := (Dw.toLw ⟨⟨w0, b1, b2, sa, b, t0, its, n0, [], its'⟩, u, acc, na⟩).w.params) (by refine bk b1 ?_ ?_ <;> kernel_rfl) (D.step F rfl) fun q => ?_
  refine sx (by show 1 ≤ 2; decide) 386 11903788990978151201760840696239820431418728805673038308899368852263081087394193179692623077566968610426388669065918738097199821836071217123032656470560588202995485287713346084808048352940542247920994277904123227888388224461421714995825768553978830847676774491671919000287130051457728163482808458484312191742685746137351433465563869387496670770623430854539746290348427584616841995889821028633216566946170818647076854213966726939835116707307539338956317566370947452372771741407821813724661580357150066633569520353985872289840425840289139718320292647380452241002549296381573465718702166319299704333421099276857130863836190 (by refine bk b1 ?_ ?_ <;> kernel_rfl) (by refine bk b1 ?_ ?_ <;> kernel_rfl) ?_
  refine GoX.cutF [0, 1, 2, 3, 4, 5, 6, 7, 8, 9, 10, 11, 12, 13, 22, 15] (fun S => sD1 ⟨⟨w0, b1, b2, sa, b, t0, its, n0, [], its'⟩, u, acc, na⟩ (T1.of 22 15 (turn + 1) tu' ia (j + 1) m S.T) S.p S.nx S.tk) (by refine bk b1 ?_ ?_ <;> kernel_rfl) (by refine bk b1 ?_ ?_ <;> kernel_rfl) (by refine bk b1 ?_ ?_ <;> kernel_rfl) (by decide) (by refine bk b1 ?_ ?_ <;> kernel_rfl) ?_
  refine next _ _ _ _ ?_ ?_ ?_ ?_ ?_ ?_
  · rfl
  · rfl
  · rfl
  · refine bk b1 ?_ ?_ <;> kernel_rfl
  · refine bk b1 ?_ ?_ <;> kernel_rfl
  · refine bk b1 ?_ ?_ <;> kernel_rfl
theorem wkU_pat_2 (turn : Int) (tu ia j m lc : Nat) (x0 : Value) (tq : Nat) (rest : List Value) (ra nr : Nat) (a1 e1 f1 g1 : Nat) (a2 e2 f2 g2 : Nat) (no : Nat) (cv : Value) (k1 : Nat) (v1 : Value) (k2 : Nat) (v2 : Value) (p : Pos) (nx tk : Nat) (pa da tu' ta nx' tk' : Nat) (hW : ∀ (h : Heap) (t : Nat) (R : Result → Shared → Prop), Known (Dw.toLw ⟨⟨w0, b1, b2, sa, b, t0, its, n0, [], its'⟩, u, acc, na⟩).w.params h → h.get? pa = some (pat da) → (kq (Dw.toLw ⟨⟨w0, b1, b2, sa, b, t0, its, n0, [], its'⟩, u, acc, na⟩).w.params).get pa = none → (∀ (uu : Nat) h' t', Aft h h' [] → R (.ok (.ret .none)) ⟨h', #[], d, t', os⟩) → codeAny (model PySem.Challenge.pw_pf0369_01 (Dw.toLw ⟨⟨w0, b1, b2, sa, b, t0, its, n0, [], its'⟩, u, acc, na⟩).w) AX (.call (.ref 177) ⟨[.ref pa, .int 32 520], []⟩) R ⟨h, #[], d, t, os⟩)
    (next : ∀ (X : T1) (p : Pos) (nx tk : Nat), X.ia = ia → X.turn = turn + 1 → X.m = m → X.rs.length = 2 → X.os.length = 2 → X.sl = (slS b) → GoX (vb (VD ⟨⟨w0, b1, b2, sa, b, t0, its, n0, [], its'⟩, u, acc, na⟩ ia) h₀ R₁ d os) (sD1 ⟨⟨w0, b1, b2, sa, b, t0, its, n0, [], its'⟩, u, acc, na⟩ X p nx tk)) :
    GoX (vb (VD ⟨⟨w0, b1, b2, sa, b, t0, its, n0, [], its'⟩, u, acc, na⟩ ia) h₀ R₁ d os) (hdP (VD ⟨⟨w0, b1, b2, sa, b, t0, its, n0, [], its'⟩, u, acc, na⟩ ia) (sD1 ⟨⟨w0, b1, b2, sa, b, t0, its, n0, [], its'⟩, u, acc, na⟩ ⟨turn, tu, ia, j, m + 1, lc, x0, tq, rest, ra, nr, [(a1, e1), (a2, e2)], no, [(f1, g1), (f2, g2)], cv, k1, v1, k2, v2, ⟨[]⟩⟩ p nx tk) 14 402654723 ia j m (b + 11) (b + 7) turn tu' ta pa da .none 16 nx' tk') := by
  refine sx (by show 1 ≤ 2; decide) 213 254076651071756320409515555848212319911219823781857123695504196475241266266470865427039851963553099551059200915404043755979666261292524447708842036110598981062519815225835067572661184921224815267951419617357946012164962939371715591043934943780236493276975229679647089500689 (by refine bk b1 ?_ ?_ <;> kernel_rfl) (by refine bk b1 ?_ ?_ <;> kernel_rfl) ?_
  refine GoX.call (.call (.ref 177) ⟨[.ref pa, .int 32 520], []⟩) none (by refine bk b1 ?_ ?_ <;> kernel_rfl) AX rfl (by refine bk b1 ?_ ?_ <;> kernel_rfl) ?_
  intro h D
  refine hW h _ _ D.known (D.own 17 pa (pat da) (by refine bk b1 ?_ ?_ <;> kernel_rfl)) (D.off 17 pa (pat da) (by refine bk b1 ?_ ?_ <;> kernel_rfl)) fun uu h2 t2 F => ?_
  refine GoX.fromB 30 (P := (Dw.toLw ⟨⟨w0, b1, b2, sa, b, t0, its, n0, [], its'⟩, u, acc, na⟩).w.params) (by refine bk b1 ?_ ?_ <;> kernel_rfl) (D.step F rfl) fun q => ?_
  refine sx (by show 1 ≤ 2; decide) 386 11903788990978151201760840696239820431418728805673038308899368852263081087394193179692623077566968610426388669065918738097199821836071217123032656470560588202995485287713346084808048352940542247920994277904123227888388224461421714995825768553978830847676774491671919000287130051457728163482808458484312191742685746137351433465563869387496670770623430854539746290348427584616841995889821028633216566946170818647076854213966726939835116707307539338956317566370947452372771741407821813724661580357150066633569520353985872289840425840289139718320292647380452241002549296381573465718702166319299704333421099276857130863836190 (by refine bk b1 ?_ ?_ <;> kernel_rfl) (by refine bk b1 ?_ ?_ <;> kernel_rfl) ?_
  refine GoX.cutF [0, 1, 2, 3, 4, 5, 6, 7, 8, 9, 10, 11, 12, 13, 22, 15] (fun S => sD1 ⟨⟨w0, b1, b2, sa, b, t0, its, n0, [], its'⟩, u, acc, na⟩ (T1.of 22 15 (turn + 1) tu' ia (j + 1) m S.T) S.p S.nx S.tk) (by refine bk b1 ?_ ?_ <;> kernel_rfl) (by refine bk b1 ?_ ?_ <;> kernel_rfl) (by refine bk b1 ?_ ?_ <;> kernel_rfl) (by decide) (by refine bk b1 ?_ ?_ <;> kernel_rfl) ?_
  refine next _ _ _ _ ?_ ?_ ?_ ?_ ?_ ?_
  · rfl
  · rfl
  · rfl
  · refine bk b1 ?_ ?_ <;> kernel_rfl
  · refine bk b1 ?_ ?_ <;> kernel_rfl
  · refine bk b1 ?_ ?_ <;> kernel_rfl
theorem wkS_pat_0 (turn : Int) (tu ia j m lc : Nat) (x0 : Value) (tq : Nat) (rest : List Value) (ra nr : Nat) (no : Nat) (cv : Value) (k1 : Nat) (v1 : Value) (k2 : Nat) (v2 : Value) (p : Pos) (nx tk : Nat) (pa da tu' ta nx' tk' : Nat) (hW : ∀ (h : Heap) (t : Nat) (R : Result → Shared → Prop), Known (Dw.toLw ⟨⟨w0, b1, b2, sa, b, t0, its, n0, [], its'⟩, u, acc, na⟩).w.params h → h.get? pa = some (pat da) → (kq (Dw.toLw ⟨⟨w0, b1, b2, sa, b, t0, its, n0, [], its'⟩, u, acc, na⟩).w.params).get pa = none → (∀ (uu : Nat) h' t', Aft h h' [] → R (.ok (.ret .none)) ⟨h', #[], d, t', os⟩) → codeAny (model PySem.Challenge.pw_pf0369_01 (Dw.toLw ⟨⟨w0, b1, b2, sa, b, t0, its, n0, [], its'⟩, u, acc, na⟩).w) AX (.call (.ref 177) ⟨[.ref pa, .int 32 520], []⟩) R ⟨h, #[], d, t, os⟩)
    (next : ∀ (X : T1) (p : Pos) (nx tk : Nat), X.ia = ia → X.turn = turn + 1 → X.m = m → X.rs.length = 0 → X.os.length = 0 → X.sl = (slS b) → GoX (vb (VD ⟨⟨w0, b1, b2, sa, b, t0, its, n0, [], its'⟩, u, acc, na⟩ ia) h₀ R₁ d os) (sD1 ⟨⟨w0, b1, b2, sa, b, t0, its, n0, [], its'⟩, u, acc, na⟩ X p nx tk)) :
    GoX (vb (VD ⟨⟨w0, b1, b2, sa, b, t0, its, n0, [], its'⟩, u, acc, na⟩ ia) h₀ R₁ d os) (hdP (VD ⟨⟨w0, b1, b2, sa, b, t0, its, n0, [], its'⟩, u, acc, na⟩ ia) (sD1 ⟨⟨w0, b1, b2, sa, b, t0, its, n0, [], its'⟩, u, acc, na⟩ ⟨turn, tu, ia, j, m + 1, lc, x0, tq, rest, ra, nr, [], no, [], cv, k1, v1, k2, v2, (slS b)⟩ p nx tk) 14 402654723 ia j m (b + 11) (b + 7) turn tu' ta pa da .none 16 nx' tk') := by
  refine sx (by show 1 ≤ 2; decide) 213 254076651071756320409515555848212319911219823781857123695504196475241266266470865427039851963553099551059200915404043755979666261292524447708842036110598981062519815225835067572661184921224815267951419617357946012164962939371715591043934943780236493276975229679647089500689 (by refine bk b1 ?_ ?_ <;> kernel_rfl) (by refine bk b1 ?_ ?_ <;> kernel_rfl) ?_
  refine GoX.call (.call (.ref 177) ⟨[.ref pa, .int 32 520], []⟩) none (by refine bk b1 ?_ ?_ <;> kernel_rfl) AX rfl (by refine bk b1 ?_ ?_ <;> kernel_rfl) ?_
  intro h D
  refine hW h _ _ D.known (D.own 17 pa (pat da) (by refine bk b1 ?_ ?_ <;> kernel_rfl)) (D.off 17 pa (pat da) (by refine bk b1 ?_ ?_ <;> kernel_rfl)) fun uu h2 t2 F => ?_
  refine GoX.fromB 30 (P := (Dw.toLw ⟨⟨w0, b1, b2, sa, b, t0, its, n0, [], its'⟩, u, acc, na⟩).w.params) (by refine bk b1 ?_ ?_ <;> kernel_rfl) (D.step F rfl) fun q => ?_
  refine sx (by show 1 ≤ 2; decide) 384 23249587873004201565939141984843399280114704698580152947069079789576330248816783554087154448372985567239040369269372535346093402023576595943423157169063648833975557202565129071890719439336996577970691949031490679469508250901214287101222204208731640778741537907872757189336452351840379166830754513754522511525486214812988236353093805274234072609699348109302104176590718846270552361243958855536264739887228957440480042781311547740292517707188345848998122869038903148877124124195565372162293875817471481587705561043872245526637760525566223393712507290418223555450165644014018479453153183566544660752413792879539039779870 (by refine bk b1 ?_ ?_ <;> kernel_rfl) (by refine bk b1 ?_ ?_ <;> kernel_rfl) ?_
  refine GoX.cutF [0, 1, 2, 3, 4, 5, 6, 7, 8, 9, 10, 11, 12, 13, 22, 15] (fun S => sD1 ⟨⟨w0, b1, b2, sa, b, t0, its, n0, [], its'⟩, u, acc, na⟩ (T1.of 22 15 (turn + 1) tu' ia (j + 1) m S.T) S.p S.nx S.tk) (by refine bk b1 ?_ ?_ <;> kernel_rfl) (by refine bk b1 ?_ ?_ <;> kernel_rfl) (by refine bk b1 ?_ ?_ <;> kernel_rfl) (by decide) (by refine bk b1 ?_ ?_ <;> kernel_rfl) ?_
  refine next _ _ _ _ ?_ ?_ ?_ ?_ ?_ ?_
  · rfl
  · rfl
  · rfl
  · refine bk b1 ?_ ?_ <;> kernel_rfl
  · refine bk b1 ?_ ?_ <;> kernel_rfl
  · refine bk b1 ?_ ?_ <;> kernel_rfl
theorem wkS_pat_1 (turn : Int) (tu ia j m lc : Nat) (x0 : Value) (tq : Nat) (rest : List Value) (ra nr : Nat) (a1 e1 f1 g1 : Nat) (no : Nat) (cv : Value) (k1 : Nat) (v1 : Value) (k2 : Nat) (v2 : Value) (p : Pos) (nx tk : Nat) (pa da tu' ta nx' tk' : Nat) (hW : ∀ (h : Heap) (t : Nat) (R : Result → Shared → Prop), Known (Dw.toLw ⟨⟨w0, b1, b2, sa, b, t0, its, n0, [], its'⟩, u, acc, na⟩).w.params h → h.get? pa = some (pat da) → (kq (Dw.toLw ⟨⟨w0, b1, b2, sa, b, t0, its, n0, [], its'⟩, u, acc, na⟩).w.params).get pa = none → (∀ (uu : Nat) h' t', Aft h h' [] → R (.ok (.ret .none)) ⟨h', #[], d, t', os⟩) → codeAny (model PySem.Challenge.pw_pf0369_01 (Dw.toLw ⟨⟨w0, b1, b2, sa, b, t0, its, n0, [], its'⟩, u, acc, na⟩).w) AX (.call (.ref 177) ⟨[.ref pa, .int 32 520], []⟩) R ⟨h, #[], d, t, os⟩)
    (next : ∀ (X : T1) (p : Pos) (nx tk : Nat), X.ia = ia → X.turn = turn + 1 → X.m = m → X.rs.length = 1 → X.os.length = 1 → X.sl = (slS b) → GoX (vb (VD ⟨⟨w0, b1, b2, sa, b, t0, its, n0, [], its'⟩, u, acc, na⟩ ia) h₀ R₁ d os) (sD1 ⟨⟨w0, b1, b2, sa, b, t0, its, n0, [], its'⟩, u, acc, na⟩ X p nx tk)) :
    GoX (vb (VD ⟨⟨w0, b1, b2, sa, b, t0, its, n0, [], its'⟩, u, acc, na⟩ ia) h₀ R₁ d os) (hdP (VD ⟨⟨w0, b1, b2, sa, b, t0, its, n0, [], its'⟩, u, acc, na⟩ ia) (sD1 ⟨⟨w0, b1, b2, sa, b, t0, its, n0, [], its'⟩, u, acc, na⟩ ⟨turn, tu, ia, j, m + 1, lc, x0, tq, rest, ra, nr, [(a1, e1)], no, [(f1, g1)], cv, k1, v1, k2, v2, (slS b)⟩ p nx tk) 14 402654723 ia j m (b + 11) (b + 7) turn tu' ta pa da .none 16 nx' tk') := by
  refine sx (by show 1 ≤ 2; decide) 213 254076651071756320409515555848212319911219823781857123695504196475241266266470865427039851963553099551059200915404043755979666261292524447708842036110598981062519815225835067572661184921224815267951419617357946012164962939371715591043934943780236493276975229679647089500689 (by refine bk b1 ?_ ?_ <;> kernel_rfl) (by refine bk b1 ?_ ?_ <;> kernel_rfl) ?_
  refine GoX.call (.call (.ref 177) ⟨[.ref pa, .int 32 520], []⟩) none (by refine bk b1 ?_ ?_ <;> kernel_rfl) AX rfl (by refine bk b1 ?_ ?_ <;> kernel_rfl) ?_
  intro h D
  refine hW h _ _ D.known (D.own 17 pa (pat da) (by refine bk b1 ?_ ?_ <;> kernel_rfl)) (D.off 17 pa (pat da) (by refine bk b1 ?_ ?_ <;> kernel_rfl)) fun uu h2 t2 F => ?_
  refine GoX.fromB 30 (P := (Dw.toLw ⟨⟨w0, b1, b2, sa, b, t0, its, n0, [], its'⟩, u, acc, na⟩).w.params) (by refine bk b1 ?_ ?_ <;> kernel_rfl) (D.step F rfl) fun q => ?_
  refine sx (by show 1 ≤ 2; decide) 384 23249587873004201565939141984843399280114704698580152947069079789576330248816783554087154448372985567239040369269372535346093402023576595943423157169063648833975557202565129071890719439336996577970691949031490679469508250901214287101222204208731640778741537907872757189336452351840379166830754513754522511525486214812988236353093805274234072609699348109302104176590718846270552361243958855536264739887228957440480042781311547740292517707188345848998122869038903148877124124195565372162293875817471481587705561043872245526637760525566223393712507290418223555450165644014018479453153183566544660752413792879539039779870 (by refine bk b1 ?_ ?_ <;> kernel_rfl) (by refine bk b1 ?_ ?_ <;> kernel_rfl) ?_
  refine GoX.cutF [0, 1, 2, 3, 4, 5, 6, 7, 8, 9, 10, 11, 12, 13, 22, 15] (fun S => sD1 ⟨⟨w0, b1, b2, sa, b, t0, its, n0, [], its'⟩, u, acc, na⟩ (T1.of 22 15 (turn + 1) tu' ia (j + 1) m S.T) S.p S.nx S.tk) (by refine bk b1 ?_ ?_ <;> kernel_rfl) (by refine bk b1 ?_ ?_ <;> kernel_rfl) (by refine bk b1 ?_ ?_ <;> kernel_rfl) (by decide) (by refine bk b1 ?_ ?_ <;> kernel_rfl) ?_
  refine next _ _ _ _ ?_ ?_ ?_ ?_ ?_ ?_
  · rfl
  · rfl
  · rfl
  · refine bk b1 ?_ ?_ <;> kernel_rfl
  · refine bk b1 ?_ ?_ <;> kernel_rfl
  · refine bk b1 ?_ ?_ <;> kernel_rfl
theorem wkN_zero_0 (turn : Int) (tu ia j m lc : Nat) (x0 : Value) (tq : Nat) (rest : List Value) (ra nr : Nat) (no : Nat) (cv : Value) (k1 : Nat) (v1 : Value) (k2 : Nat) (v2 : Value) (sl : Array (Option Value)) (p : Pos) (nx tk : Nat) (xv : Str) (tv : Nat) (tu' ta v nx' tk' : Nat) (hW : WholeOf (Dw.toLw ⟨⟨w0, b1, b2, sa, b, t0, its, n0, [], its'⟩, u, acc, na⟩).w d os (.str xv tv) fun u => .int 0 u)
    (next : ∀ (X : T1) (p : Pos) (nx tk : Nat), X.ia = ia → X.turn = turn + 1 → X.m = m → X.rs.length = 0 → X.os.length = 0 → X.sl = sl → GoX (vb (VD ⟨⟨w0, b1, b2, sa, b, t0, its, n0, [], its'⟩, u, acc, na⟩ ia) h₀ R₁ d os) (sD1 ⟨⟨w0, b1, b2, sa, b, t0, its, n0, [], its'⟩, u, acc, na⟩ X p nx tk)) :
    GoX (vb (VD ⟨⟨w0, b1, b2, sa, b, t0, its, n0, [], its'⟩, u, acc, na⟩ ia) h₀ R₁ d os) (hdB (VD ⟨⟨w0, b1, b2, sa, b, t0, its, n0, [], its'⟩, u, acc, na⟩ ia) (sD1 ⟨⟨w0, b1, b2, sa, b, t0, its, n0, [], its'⟩, u, acc, na⟩ ⟨turn, tu, ia, j, m + 1, lc, x0, tq, rest, ra, nr, [], no, [], cv, k1, v1, k2, v2, sl⟩ p nx tk) 14 402654723 ia j m (b + 11) (b + 7) turn tu' ta (.str xv tv) (.int 0 v) 16 nx' tk') := by
  refine sx (by show 1 ≤ 2; decide) 221 125751003837114594848016232441143932624126113572095543313773848277540163502256623612528502340932565341329739087422935089382150381327437712556324659956232381434205643024040641536360636696131347217509622871646723331670669582607363319987989086608193790273241454426932291454640657 (by refine bk b1 ?_ ?_ <;> kernel_rfl) (by refine bk b1 ?_ ?_ <;> kernel_rfl) ?_
  refine GoX.call (.call (.ref 177) ⟨[.str xv tv, .int 32 520], []⟩) none (by refine bk b1 ?_ ?_ <;> kernel_rfl) AX rfl (by refine bk b1 ?_ ?_ <;> kernel_rfl) ?_
  intro h D
  refine hW h _ _ D.known fun uu h2 t2 F => ?_
  refine GoX.fromB 29 (P := (Dw.toLw ⟨⟨w0, b1, b2, sa, b, t0, its, n0, [], its'⟩, u, acc, na⟩).w.params) (by refine bk b1 ?_ ?_ <;> kernel_rfl) (D.step F rfl) fun q => ?_
  refine sx (by show 1 ≤ 2; decide) 73 4529565277017759244587219644621742201992390859671127962777041437 (by refine bk b1 ?_ ?_ <;> kernel_rfl) (by refine bk b1 ?_ ?_ <;> kernel_rfl) ?_
  refine GoX.cutF [0, 1, 2, 3, 4, 5, 6, 7, 8, 9, 10, 11, 12, 13, 21, 15] (fun S => sD1 ⟨⟨w0, b1, b2, sa, b, t0, its, n0, [], its'⟩, u, acc, na⟩ (T1.of 21 15 (turn + 1) tu' ia (j + 1) m S.T) S.p S.nx S.tk) (by refine bk b1 ?_ ?_ <;> kernel_rfl) (by refine bk b1 ?_ ?_ <;> kernel_rfl) (by refine bk b1 ?_ ?_ <;> kernel_rfl) (by decide) (by refine bk b1 ?_ ?_ <;> kernel_rfl) ?_
  refine next _ _ _ _ ?_ ?_ ?_ ?_ ?_ ?_
  · rfl
  · rfl
  · rfl
  · refine bk b1 ?_ ?_ <;> kernel_rfl
  · refine bk b1 ?_ ?_ <;> kernel_rfl
  · refine bk b1 ?_ ?_ <;> kernel_rfl
theorem wkN_zero_1 (turn : Int) (tu ia j m lc : Nat) (x0 : Value) (tq : Nat) (rest : List Value) (ra nr : Nat) (a1 e1 f1 g1 : Nat) (no : Nat) (cv : Value) (k1 : Nat) (v1 : Value) (k2 : Nat) (v2 : Value) (sl : Array (Option Value)) (p : Pos) (nx tk : Nat) (xv : Str) (tv : Nat) (tu' ta v nx' tk' : Nat) (hW : WholeOf (Dw.toLw ⟨⟨w0, b1, b2, sa, b, t0, its, n0, [], its'⟩, u, acc, na⟩).w d os (.str xv tv) fun u => .int 0 u)
    (next : ∀ (X : T1) (p : Pos) (nx tk : Nat), X.ia = ia → X.turn = turn + 1 → X.m = m → X.rs.length = 1 → X.os.length = 1 → X.sl = sl → GoX (vb (VD ⟨⟨w0, b1, b2, sa, b, t0, its, n0, [], its'⟩, u, acc, na⟩ ia) h₀ R₁ d os) (sD1 ⟨⟨w0, b1, b2, sa, b, t0, its, n0, [], its'⟩, u, acc, na⟩ X p nx tk)) :
    GoX (vb (VD ⟨⟨w0, b1, b2, sa, b, t0, its, n0, [], its'⟩, u, acc, na⟩ ia) h₀ R₁ d os) (hdB (VD ⟨⟨w0, b1, b2, sa, b, t0, its, n0, [], its'⟩, u, acc, na⟩ ia) (sD1 ⟨⟨w0, b1, b2, sa, b, t0, its, n0, [], its'⟩, u, acc, na⟩ ⟨turn, tu, ia, j, m + 1, lc, x0, tq, rest, ra, nr, [(a1, e1)], no, [(f1, g1)], cv, k1, v1, k2, v2, sl⟩ p nx tk) 14 402654723 ia j m (b + 11) (b + 7) turn tu' ta (.str xv tv) (.int 0 v) 16 nx' tk') := by
  refine sx (by show 1 ≤ 2; decide) 221 125751003837114594848016232441143932624126113572095543313773848277540163502256623612528502340932565341329739087422935089382150381327437712556324659956232381434205643024040641536360636696131347217509622871646723331670669582607363319987989086608193790273241454426932291454640657 (by refine bk b1 ?_ ?_ <;> kernel_rfl) (by refine bk b1 ?_ ?_ <;> kernel_rfl) ?_
  refine GoX.call (.call (.ref 177) ⟨[.str xv tv, .int 32 520], []⟩) none (by refine bk b1 ?_ ?_ <;> kernel_rfl) AX rfl (by refine bk b1 ?_ ?_ <;> kernel_rfl) ?_
  intro h D
  refine hW h _ _ D.known fun uu h2 t2 F => ?_
  refine GoX.fromB 29 (P := (Dw.toLw ⟨⟨w0, b1, b2, sa, b, t0, its, n0, [], its'⟩, u, acc, na⟩).w.params) (by refine bk b1 ?_ ?_ <;> kernel_rfl) (D.step F rfl) fun q => ?_
  refine sx (by show 1 ≤ 2; decide) 73 4529565277017759244587219644621742201992390859671127962777041437 (by refine bk b1 ?_ ?_ <;> kernel_rfl) (by refine bk b1 ?_ ?_ <;> kernel_rfl) ?_
  refine GoX.cutF [0, 1, 2, 3, 4, 5, 6, 7, 8, 9, 10, 11, 12, 13, 21, 15] (fun S => sD1 ⟨⟨w0, b1, b2, sa, b, t0, its, n0, [], its'⟩, u, acc, na⟩ (T1.of 21 15 (turn + 1) tu' ia (j + 1) m S.T) S.p S.nx S.tk) (by refine bk b1 ?_ ?_ <;> kernel_rfl) (by refine bk b1 ?_ ?_ <;> kernel_rfl) (by refine bk b1 ?_ ?_ <;> kernel_rfl) (by decide) (by refine bk b1 ?_ ?_ <;> kernel_rfl) ?_
  refine next _ _ _ _ ?_ ?_ ?_ ?_ ?_ ?_
  · rfl
  · rfl
  · rfl
  · refine bk b1 ?_ ?_ <;> kernel_rfl
  · refine bk b1 ?_ ?_ <;> kernel_rfl
  · refine bk b1 ?_ ?_ <;> kernel_rfl
theorem wkN_zero_2 (turn : Int) (tu ia j m lc : Nat) (x0 : Value) (tq : Nat) (rest : List Value) (ra nr : Nat) (a1 e1 f1 g1 : Nat) (a2 e2 f2 g2 : Nat) (no : Nat) (cv : Value) (k1 : Nat) (v1 : Value) (k2 : Nat) (v2 : Value) (sl : Array (Option Value)) (p : Pos) (nx tk : Nat) (xv : Str) (tv : Nat) (tu' ta v nx' tk' : Nat) (hW : WholeOf (Dw.toLw ⟨⟨w0, b1, b2, sa, b, t0, its, n0, [], its'⟩, u, acc, na⟩).w d os (.str xv tv) fun u => .int 0 u)
    (next : ∀ (X : T1) (p : Pos) (nx tk : Nat), X.ia = ia → X.turn = turn + 1 → X.m = m → X.rs.length = 2 → X.os.length = 2 → X.sl = sl → GoX (vb (VD ⟨⟨w0, b1, b2, sa, b, t0, its, n0, [], its'⟩, u, acc, na⟩ ia) h₀ R₁ d os) (sD1 ⟨⟨w0, b1, b2, sa, b, t0, its, n0, [], its'⟩, u, acc, na⟩ X p nx tk)) :
    GoX (vb (VD ⟨⟨w0, b1, b2, sa, b, t0, its, n0, [], its'⟩, u, acc, na⟩ ia) h₀ R₁ d os) (hdB (VD ⟨⟨w0, b1, b2, sa, b, t0, its, n0, [], its'⟩, u, acc, na⟩ ia) (sD1 ⟨⟨w0, b1, b2, sa, b, t0, its, n0, [], its'⟩, u, acc, na⟩ ⟨turn, tu, ia, j, m + 1, lc, x0, tq, rest, ra, nr, [(a1, e1), (a2, e2)], no, [(f1, g1), (f2, g2)], cv, k1, v1, k2, v2, sl⟩ p nx tk) 14 402654723 ia j m (b + 11) (b + 7) turn tu' ta (.str xv tv) (.int 0 v) 16 nx' tk') := by
  refine sx (by show 1 ≤ 2; decide) 221 125751003837114594848016232441143932624126113572095543313773848277540163502256623612528502340932565341329739087422935089382150381327437712556324659956232381434205643024040641536360636696131347217509622871646723331670669582607363319987989086608193790273241454426932291454640657 (by refine bk b1 ?_ ?_ <;> kernel_rfl) (by refine bk b1 ?_ ?_ <;> kernel_rfl) ?_
  refine GoX.call (.call (.ref 177) ⟨[.str xv tv, .int 32 520], []⟩) none (by refine bk b1 ?_ ?_ <;> kernel_rfl) AX rfl (by refine bk b1 ?_ ?_ <;> kernel_rfl) ?_
  intro h D
  refine hW h _ _ D.known fun uu h2 t2 F => ?_
  refine GoX.fromB 29 (P := (Dw.toLw ⟨⟨w0, b1, b2, sa, b, t0, its, n0, [], its'⟩, u, acc, na⟩).w.params) (by refine bk b1 ?_ ?_ <;> kernel_rfl) (D.step F rfl) fun q => ?_
  refine sx (by show 1 ≤ 2; decide) 73 4529565277017759244587219644621742201992390859671127962777041437 (by refine bk b1 ?_ ?_ <;> kernel_rfl) (by refine bk b1 ?_ ?_ <;> kernel_rfl) ?_
  refine GoX.cutF [0, 1, 2, 3, 4, 5, 6, 7, 8, 9, 10, 11, 12, 13, 21, 15] (fun S => sD1 ⟨⟨w0, b1, b2, sa, b, t0, its, n0, [], its'⟩, u, acc, na⟩ (T1.of 21 15 (turn + 1) tu' ia (j + 1) m S.T) S.p S.nx S.tk) (by refine bk b1 ?_ ?_ <;> kernel_rfl) (by refine bk b1 ?_ ?_ <;> kernel_rfl) (by refine bk b1 ?_ ?_ <;> kernel_rfl) (by decide) (by refine bk b1 ?_ ?_ <;> kernel_rfl) ?_
  refine next _ _ _ _ ?_ ?_ ?_ ?_ ?_ ?_
  · rfl
  · rfl
  · rfl
  · refine bk b1 ?_ ?_ <;> kernel_rfl
  · refine bk b1 ?_ ?_ <;> kernel_rfl
  · refine bk b1 ?_ ?_ <;> kernel_rfl
theorem wkN_zeroi_0 (turn : Int) (tu ia j m lc : Nat) (x0 : Value) (tq : Nat) (rest : List Value) (ra nr : Nat) (no : Nat) (cv : Value) (k1 : Nat) (v1 : Value) (k2 : Nat) (v2 : Value) (sl : Array (Option Value)) (p : Pos) (nx tk : Nat) (kv : Int) (tv : Nat) (tu' ta v nx' tk' : Nat) (hW : WholeOf (Dw.toLw ⟨⟨w0, b1, b2, sa, b, t0, its, n0, [], its'⟩, u, acc, na⟩).w d os (.int kv tv) fun u => .int 0 u)
    (next : ∀ (X : T1) (p : Pos) (nx tk : Nat), X.ia = ia → X.turn = turn + 1 → X.m = m → X.rs.length = 0 → X.os.length = 0 → X.sl = sl → GoX (vb (VD ⟨⟨w0, b1, b2, sa, b, t0, its, n0, [], its'⟩, u, acc, na⟩ ia) h₀ R₁ d os) (sD1 ⟨⟨w0, b1, b2, sa, b, t0, its, n0, [], its'⟩, u, acc, na⟩ X p nx tk)) :
    GoX (vb (VD ⟨⟨w0, b1, b2, sa, b, t0, its, n0, [], its'⟩, u, acc, na⟩ ia) h₀ R₁ d os) (hdB (VD ⟨⟨w0, b1, b2, sa, b, t0, its, n0, [], its'⟩, u, acc, na⟩ ia) (sD1 ⟨⟨w0, b1, b2, sa, b, t0, its, n0, [], its'⟩, u, acc, na⟩ ⟨turn, tu, ia, j, m + 1, lc, x0, tq, rest, ra, nr, [], no, [], cv, k1, v1, k2, v2, sl⟩ p nx tk) 14 402654723 ia j m (b + 11) (b + 7) turn tu' ta (.int kv tv) (.int 0 v) 16 nx' tk') := by
  refine sx (by show 1 ≤ 2; decide) 221 125751003837114594848016232441143932624126113572095543313773848277540163502256623612528502340932565341329739087422935089382150381327437712556324659956232381434205643024040641536360636696131347217509622871646723331670669582607363319987989086608193790273241454426932291454640657 (by refine bk b1 ?_ ?_ <;> kernel_rfl) (by refine bk b1 ?_ ?_ <;> kernel_rfl) ?_
  refine GoX.call (.call (.ref 177) ⟨[.int kv tv, .int 32 520], []⟩) none (by refine bk b1 ?_ ?_ <;> kernel_rfl) AX rfl (by refine bk b1 ?_ ?_ <;> kernel_rfl) ?_
  intro h D
  refine hW h _ _ D.known fun uu h2 t2 F => ?_
  refine GoX.fromB 29 (P := (Dw.toLw ⟨⟨w0, b1, b2, sa, b, t0, its, n0, [], its'⟩, u, acc, na⟩).w.params) (by refine bk b1 ?_ ?_ <;> kernel_rfl) (D.step F rfl) fun q => ?_
  refine sx (by show 1 ≤ 2; decide) 73 4529565277017759244587219644621742201992390859671127962777041437 (by refine bk b1 ?_ ?_ <;> kernel_rfl) (by refine bk b1 ?_ ?_ <;> kernel_rfl) ?_
  refine GoX.cutF [0, 1, 2, 3, 4, 5, 6, 7, 8, 9, 10, 11, 12, 13, 21, 15] (fun S => sD1 ⟨⟨w0, b1, b2, sa, b, t0, its, n0, [], its'⟩, u, acc, na⟩ (T1.of 21 15 (turn + 1) tu' ia (j + 1) m S.T) S.p S.nx S.tk) (by refine bk b1 ?_ ?_ <;> kernel_rfl) (by refine bk b1 ?_ ?_ <;> kernel_rfl) (by refine bk b1 ?_ ?_ <;> kernel_rfl) (by decide) (by refine bk b1 ?_ ?_ <;> kernel_rfl) ?_
  refine next _ _ _ _ ?_ ?_ ?_ ?_ ?_ ?_
  · rfl
  · rfl
  · rfl
  · refine bk b1 ?_ ?_ <;> kernel_rfl
  · refine bk b1 ?_ ?_ <;> kernel_rfl
  · refine bk b1 ?_ ?_ <;> kernel_rfl
theorem wkN_zeroi_1 (turn : Int) (tu ia j m lc : Nat) (x0 : Value) (tq : Nat) (rest : List Value) (ra nr : Nat) (a1 e1 f1 g1 : Nat) (no : Nat) (cv : Value) (k1 : Nat) (v1 : Value) (k2 : Nat) (v2 : Value) (sl : Array (Option Value)) (p : Pos) (nx tk : Nat) (kv : Int) (tv : Nat) (tu' ta v nx' tk' : Nat) (hW : WholeOf (Dw.toLw ⟨⟨w0, b1, b2, sa, b, t0, its, n0, [], its'⟩, u, acc, na⟩).w d os (.int kv tv) fun u => .int 0 u)
    (next : ∀ (X : T1) (p : Pos) (nx tk : Nat), X.ia = ia → X.turn = turn + 1 → X.m = m → X.rs.length = 1 → X.os.length = 1 → X.sl = sl → GoX (vb (VD ⟨⟨w0, b1, b2, sa, b, t0, its, n0, [], its'⟩, u, acc, na⟩ ia) h₀ R₁ d os) (sD1 ⟨⟨w0, b1, b2, sa, b, t0, its, n0, [], its'⟩, u, acc, na⟩ X p nx tk)) :
    GoX (vb (VD ⟨⟨w0, b1, b2, sa, b, t0, its, n0, [], its'⟩, u, acc, na⟩ ia) h₀ R₁ d os) (hdB (VD ⟨⟨w0, b1, b2, sa, b, t0, its, n0, [], its'⟩, u, acc, na⟩ ia) (sD1 ⟨⟨w0, b1, b2, sa, b, t0, its, n0, [], its'⟩, u, acc, na⟩ ⟨turn, tu, ia, j, m + 1, lc, x0, tq, rest, ra, nr, [(a1, e1)], no, [(f1, g1)], cv, k1, v1, k2, v2, sl⟩ p nx tk) 14 402654723 ia j m (b + 11) (b + 7) turn tu' ta (.int kv tv) (.int 0 v) 16 nx' tk') := by
  refine sx (by show 1 ≤ 2; decide) 221 125751003837114594848016232441143932624126113572095543313773848277540163502256623612528502340932565341329739087422935089382150381327437712556324659956232381434205643024040641536360636696131347217509622871646723331670669582607363319987989086608193790273241454426932291454640657 (by refine bk b1 ?_ ?_ <;> kernel_rfl) (by refine bk b1 ?_ ?_ <;> kernel_rfl) ?_
  refine GoX.call (.call (.ref 177) ⟨[.int kv tv, .int 32 520], []⟩) none (by refine bk b1 ?_ ?_ <;> kernel_rfl) AX rfl (by refine bk b1 ?_ ?_ <;> kernel_rfl) ?_
  intro h D
  refine hW h _ _ D.known fun uu h2 t2 F => ?_
  refine GoX.fromB 29 (P := (Dw.toLw ⟨⟨w0, b1, b2, sa, b, t0, its, n0, [], its'⟩, u, acc, na⟩).w.params) (by refine bk b1 ?_ ?_ <;> kernel_rfl) (D.step F rfl) fun q => ?_
  refine sx (by show 1 ≤ 2; decide) 73 4529565277017759244587219644621742201992390859671127962777041437 (by refine bk b1 ?_ ?_ <;> kernel_rfl) (by refine bk b1 ?_ ?_ <;> kernel_rfl) ?_
  refine GoX.cutF [0, 1, 2, 3, 4, 5, 6, 7, 8, 9, 10, 11, 12, 13, 21, 15] (fun S => sD1 ⟨⟨w0, b1, b2, sa, b, t0, its, n0, [], its'⟩, u, acc, na⟩ (T1.of 21 15 (turn + 1) tu' ia (j + 1) m S.T) S.p S.nx S.tk) (by refine bk b1 ?_ ?_ <;> kernel_rfl) (by refine bk b1 ?_ ?_ <;> kernel_rfl) (by refine bk b1 ?_ ?_ <;> kernel_rfl) (by decide) (by refine bk b1 ?_ ?_ <;> kernel_rfl) ?_
  refine next _ _ _ _ ?_ ?_ ?_ ?_ ?_ ?_
  · rfl
  · rfl
  · rfl
  · refine bk b1 ?_ ?_ <;> kernel_rfl
  · refine bk b1 ?_ ?_ <;> kernel_rfl
  · refine bk b1 ?_ ?_ <;> kernel_rfl
theorem wkN_zeroi_2 (turn : Int) (tu ia j m lc : Nat) (x0 : Value) (tq : Nat) (rest : List Value) (ra nr : Nat) (a1 e1 f1 g1 : Nat) (a2 e2 f2 g2 : Nat) (no : Nat) (cv : Value) (k1 : Nat) (v1 : Value) (k2 : Nat) (v2 : Value) (sl : Array (Option Value)) (p : Pos) (nx tk : Nat) (kv : Int) (tv : Nat) (tu' ta v nx' tk' : Nat) (hW : WholeOf (Dw.toLw ⟨⟨w0, b1, b2, sa, b, t0, its, n0, [], its'⟩, u, acc, na⟩).w d os (.int kv tv) fun u => .int 0 u)
    (next : ∀ (X : T1) (p : Pos) (nx tk : Nat), X.ia = ia → X.turn = turn + 1 → X.m = m → X.rs.length = 2 → X.os.length = 2 → X.sl = sl → GoX (vb (VD ⟨⟨w0, b1, b2, sa, b, t0, its, n0, [], its'⟩, u, acc, na⟩ ia) h₀ R₁ d os) (sD1 ⟨⟨w0, b1, b2, sa, b, t0, its, n0, [], its'⟩, u, acc, na⟩ X p nx tk)) :
    GoX (vb (VD ⟨⟨w0, b1, b2, sa, b, t0, its, n0, [], its'⟩, u, acc, na⟩ ia) h₀ R₁ d os) (hdB (VD ⟨⟨w0, b1, b2, sa, b, t0, its, n0, [], its'⟩, u, acc, na⟩ ia) (sD1 ⟨⟨w0, b1, b2, sa, b, t0, its, n0, [], its'⟩, u, acc, na⟩ ⟨turn, tu, ia, j, m + 1, lc, x0, tq, rest, ra, nr, [(a1, e1), (a2, e2)], no, [(f1, g1), (f2, g2)], cv, k1, v1, k2, v2, sl⟩ p nx tk) 14 402654723 ia j m (b + 11) (b + 7) turn tu' ta (.int kv tv) (.int 0 v) 16 nx' tk') := by
  refine sx (by show 1 ≤ 2; decide) 221 125751003837114594848016232441143932624126113572095543313773848277540163502256623612528502340932565341329739087422935089382150381327437712556324659956232381434205643024040641536360636696131347217509622871646723331670669582607363319987989086608193790273241454426932291454640657 (by refine bk b1 ?_ ?_ <;> kernel_rfl) (by refine bk b1 ?_ ?_ <;> kernel_rfl) ?_
  refine GoX.call (.call (.ref 177) ⟨[.int kv tv, .int 32 520], []⟩) none (by refine bk b1 ?_ ?_ <;> kernel_rfl) AX rfl (by refine bk b1 ?_ ?_ <;> kernel_rfl) ?_
  intro h D
  refine hW h _ _ D.known fun uu h2 t2 F => ?_
  refine GoX.fromB 29 (P := (Dw.toLw ⟨⟨w0, b1, b2, sa, b, t0, its, n0, [], its'⟩, u, acc, na⟩).w.params) (by refine bk b1 ?_ ?_ <;> kernel_rfl) (D.step F rfl) fun q => ?_
  refine sx (by show 1 ≤ 2; decide) 73 4529565277017759244587219644621742201992390859671127962777041437 (by refine bk b1 ?_ ?_ <;> kernel_rfl) (by refine bk b1 ?_ ?_ <;> kernel_rfl) ?_
  refine GoX.cutF [0, 1, 2, 3, 4, 5, 6, 7, 8, 9, 10, 11, 12, 13, 21, 15] (fun S => sD1 ⟨⟨w0, b1, b2, sa, b, t0, its, n0, [], its'⟩, u, acc, na⟩ (T1.of 21 15 (turn + 1) tu' ia (j + 1) m S.T) S.p S.nx S.tk) (by refine bk b1 ?_ ?_ <;> kernel_rfl) (by refine bk b1 ?_ ?_ <;> kernel_rfl) (by refine bk b1 ?_ ?_ <;> kernel_rfl) (by decide) (by refine bk b1 ?_ ?_ <;> kernel_rfl) ?_
  refine next _ _ _ _ ?_ ?_ ?_ ?_ ?_ ?_
  · rfl
  · rfl
  · rfl
  · refine bk b1 ?_ ?_ <;> kernel_rfl
  · refine bk b1 ?_ ?_ <;> kernel_rfl
  · refine bk b1 ?_ ?_ <;> kernel_rfl
end
end Mine
end
section
namespace Mine
section
variable (h₀ : Heap) (R₁ : Result → Shared → Prop) (d : Drawn) (os : OsState) (w0 : World) (b1 b2 : Bool) (sa b t0 : Nat) (its : List Value) (n0 : Nat) (its' : List Value) (u : Nat) (acc : List Value) (na : Nat)
theorem wkN_pos_0_bf (turn : Int) (tu ia j m lc : Nat) (x0 : Value) (tq : Nat) (rest : List Value) (ra nr : Nat) (no : Nat) (cv : Value) (k1 : Nat) (v1 : Value) (k2 : Nat) (v2 : Value) (sl : Array (Option Value)) (p : Pos) (nx tk : Nat) (xv : Str) (tv : Nat) (n tu' ta v nx' tk' : Nat) (hW : WholeOf (Dw.toLw ⟨⟨w0, b1, false, sa, b, t0, its, n0, [], its'⟩, u, acc, na⟩).w d os (.str xv tv) fun u => .int (.ofNat (n + 1)) u)
    (next : ∀ (X : T1) (p : Pos) (nx tk : Nat), X.ia = ia → X.turn = turn + 1 → X.m = m → X.rs.length = 1 → X.os.length = 1 → X.sl = sl → GoX (vb (VD ⟨⟨w0, b1, false, sa, b, t0, its, n0, [], its'⟩, u, acc, na⟩ ia) h₀ R₁ d os) (sD1 ⟨⟨w0, b1, false, sa, b, t0, its, n0, [], its'⟩, u, acc, na⟩ X p nx tk)) :
    GoX (vb (VD ⟨⟨w0, b1, false, sa, b, t0, its, n0, [], its'⟩, u, acc, na⟩ ia) h₀ R₁ d os) (hdB (VD ⟨⟨w0, b1, false, sa, b, t0, its, n0, [], its'⟩, u, acc, na⟩ ia) (sD1 ⟨⟨w0, b1, false, sa, b, t0, its, n0, [], its'⟩, u, acc, na⟩ ⟨turn, tu, ia, j, m + 1, lc, x0, tq, rest, ra, nr, [], no, [], cv, k1, v1, k2, v2, sl⟩ p nx tk) 14 402654723 ia j m (b + 11) (b + 7) turn tu' ta (.str xv tv) (.int (.ofNat (n + 1)) v) 16 nx' tk') := by
  refine sx (by show 1 ≤ 2; decide) 223 125751003837114594848016232441143932624126113572095543313773848277540163502256623612528502340932565341329739087422935089382150381327437712556324659956232381434205643024040641536360636696131347217509622871646723331670669582607363319987989086608193790273241454426932291454640657 (by refine bk b1 ?_ ?_ <;> kernel_rfl) (by refine bk b1 ?_ ?_ <;> kernel_rfl) ?_
  refine GoX.call (.call (.ref 177) ⟨[.str xv tv, .int 32 520], []⟩) none (by refine bk b1 ?_ ?_ <;> kernel_rfl) AX rfl (by refine bk b1 ?_ ?_ <;> kernel_rfl) ?_
  intro h D
  refine hW h _ _ D.known fun uu h2 t2 F => ?_
  refine GoX.fromB 29 (P := (Dw.toLw ⟨⟨w0, b1, false, sa, b, t0, its, n0, [], its'⟩, u, acc, na⟩).w.params) (by refine bk b1 ?_ ?_ <;> kernel_rfl) (D.step F rfl) fun q => ?_
  refine sx (by show 1 ≤ 2; decide) 1017 271807514640290929476649235698551961447031941451127516673763541456657163650146754521131938973255429945954091557552269851177322014504533066060821463370287979741880260399347806301978264655886126549699120101144571471693451581574165720069398745390856043753094875289949974080298955212053505538745771567428253383177816141718969393035155783190326694407826579423750773179255340898969037589176583177524421946437058647151188163255896534752605486302319762756556370930009221112301679110405450438937649093246838152730207369171719192171601203905710696201116551827485359891576837310617334385629547190527699229162835242634576366134296393508609646577217681990032727379923068391821324221387500724582263003589054245138599161954974799772052103607974388914118710496489525207795804017899161101696646246356646374695788130313541324650728870012800363325937398943779227346387325597818966360299289551734763317720117089980496826505065724131196348733547440063499401241847643433475736056500236942965161420547942682258804640793052510976871108142470367445427250002106317437158345775556841450214444899305333975028545179298134015244229040945693 (by refine bk b1 ?_ ?_ <;> kernel_rfl) (by refine bk b1 ?_ ?_ <;> kernel_rfl) ?_
  refine GoX.cutF [0, 1, 2, 3, 4, 5, 6, 7, 8, 9, 10, 11, 12, 13, 21, 15] (fun S => sD1 ⟨⟨w0, b1, false, sa, b, t0, its, n0, [], its'⟩, u, acc, na⟩ (T1.of 21 15 (turn + 1) tu' ia (j + 1) m S.T) S.p S.nx S.tk) (by refine bk b1 ?_ ?_ <;> kernel_rfl) (by refine bk b1 ?_ ?_ <;> kernel_rfl) (by refine bk b1 ?_ ?_ <;> kernel_rfl) (by decide) (by refine bk b1 ?_ ?_ <;> kernel_rfl) ?_
  refine next _ _ _ _ ?_ ?_ ?_ ?_ ?_ ?_
  · rfl
  · rfl
  · rfl
  · refine bk b1 ?_ ?_ <;> kernel_rfl
  · refine bk b1 ?_ ?_ <;> kernel_rfl
  · refine bk b1 ?_ ?_ <;> kernel_rfl
theorem wkN_pos_0_bt (turn : Int) (tu ia j m lc : Nat) (x0 : Value) (tq : Nat) (rest : List Value) (ra nr : Nat) (no : Nat) (cv : Value) (k1 : Nat) (v1 : Value) (k2 : Nat) (v2 : Value) (sl : Array (Option Value)) (p : Pos) (nx tk : Nat) (xv : Str) (tv : Nat) (n tu' ta v nx' tk' : Nat) (hW : WholeOf (Dw.toLw ⟨⟨w0, b1, true, sa, b, t0, its, n0, [], its'⟩, u, acc, na⟩).w d os (.str xv tv) fun u => .int (.ofNat (n + 1)) u)
    (next : ∀ (X : T1) (p : Pos) (nx tk : Nat), X.ia = ia → X.turn = turn + 1 → X.m = m → X.rs.length = 1 → X.os.length = 1 → X.sl = sl → GoX (vb (VD ⟨⟨w0, b1, true, sa, b, t0, its, n0, [], its'⟩, u, acc, na⟩ ia) h₀ R₁ d os) (sD1 ⟨⟨w0, b1, true, sa, b, t0, its, n0, [], its'⟩, u, acc, na⟩ X p nx tk)) :
    GoX (vb (VD ⟨⟨w0, b1, true, sa, b, t0, its, n0, [], its'⟩, u, acc, na⟩ ia) h₀ R₁ d os) (hdB (VD ⟨⟨w0, b1, true, sa, b, t0, its, n0, [], its'⟩, u, acc, na⟩ ia) (sD1 ⟨⟨w0, b1, true, sa, b, t0, its, n0, [], its'⟩, u, acc, na⟩ ⟨turn, tu, ia, j, m + 1, lc, x0, tq, rest, ra, nr, [], no, [], cv, k1, v1, k2, v2, sl⟩ p nx tk) 14 402654723 ia j m (b + 11) (b + 7) turn tu' ta (.str xv tv) (.int (.ofNat (n + 1)) v) 16 nx' tk') := by
  refine sx (by show 1 ≤ 2; decide) 223 125751003837114594848016232441143932624126113572095543313773848277540163502256623612528502340932565341329739087422935089382150381327437712556324659956232381434205643024040641536360636696131347217509622871646723331670669582607363319987989086608193790273241454426932291454640657 (by refine bk b1 ?_ ?_ <;> kernel_rfl) (by refine bk b1 ?_ ?_ <;> kernel_rfl) ?_
  refine GoX.call (.call (.ref 177) ⟨[.str xv tv, .int 32 520], []⟩) none (by refine bk b1 ?_ ?_ <;> kernel_rfl) AX rfl (by refine bk b1 ?_ ?_ <;> kernel_rfl) ?_
  intro h D
  refine hW h _ _ D.known fun uu h2 t2 F => ?_
  refine GoX.fromB 29 (P := (Dw.toLw ⟨⟨w0, b1, true, sa, b, t0, its, n0, [], its'⟩, u, acc, na⟩).w.params) (by refine bk b1 ?_ ?_ <;> kernel_rfl) (D.step F rfl) fun q => ?_
  refine sx (by show 1 ≤ 2; decide) 997 57557480052908003516579846331830533584737639458997550813623832287187288094214730394078689206312607818922511804048155532559275292289222507384183931470331066670440335477729468085156185286954199559789621627254023196511655937415669148953764310232567254054399729279443839467364843400230259274899485127402444711540611710863487584011426150578219195225625539121093674634254407745990978877035901481039758340359623769025587635269743647563538243263727289316213603416632039413044121609206441274293014955014373365793470159719113061950043265153468966706146980068416862902253972475907541025492357301630522919706097969321693454537450751614814596423982865836990647639186746702935097311916523134892937611046968402669107961105136235464103107765567298301708413782026737877497313936490231400574305241624301324482141698929592754812524055753021941045299368798066702930641222156192210405458761290688519212866219460370741126360362779589749780708425635688637040048921531805384638757706969101685447002697866157269420426704647328929225626046414307360661248927011107427622233797051707258206095158914557605922909469213 (by refine bk b1 ?_ ?_ <;> kernel_rfl) (by refine bk b1 ?_ ?_ <;> kernel_rfl) ?_
  refine GoX.cutF [0, 1, 2, 3, 4, 5, 6, 7, 8, 9, 10, 11, 12, 13, 21, 15] (fun S => sD1 ⟨⟨w0, b1, true, sa, b, t0, its, n0, [], its'⟩, u, acc, na⟩ (T1.of 21 15 (turn + 1) tu' ia (j + 1) m S.T) S.p S.nx S.tk) (by refine bk b1 ?_ ?_ <;> kernel_rfl) (by refine bk b1 ?_ ?_ <;> kernel_rfl) (by refine bk b1 ?_ ?_ <;> kernel_rfl) (by decide) (by refine bk b1 ?_ ?_ <;> kernel_rfl) ?_
  refine next _ _ _ _ ?_ ?_ ?_ ?_ ?_ ?_
  · rfl
  · rfl
  · rfl
  · refine bk b1 ?_ ?_ <;> kernel_rfl
  · refine bk b1 ?_ ?_ <;> kernel_rfl
  · refine bk b1 ?_ ?_ <;> kernel_rfl
theorem wkN_pos_1_bf (turn : Int) (tu ia j m lc : Nat) (x0 : Value) (tq : Nat) (rest : List Value) (ra nr : Nat) (a1 e1 f1 g1 : Nat) (no : Nat) (cv : Value) (k1 : Nat) (v1 : Value) (k2 : Nat) (v2 : Value) (sl : Array (Option Value)) (p : Pos) (nx tk : Nat) (xv : Str) (tv : Nat) (n tu' ta v nx' tk' : Nat) (hW : WholeOf (Dw.toLw ⟨⟨w0, b1, false, sa, b, t0, its, n0, [], its'⟩, u, acc, na⟩).w d os (.str xv tv) fun u => .int (.ofNat (n + 1)) u)
    (next : ∀ (X : T1) (p : Pos) (nx tk : Nat), X.ia = ia → X.turn = turn + 1 → X.m = m → X.rs.length = 2 → X.os.length = 2 → X.sl = sl → GoX (vb (VD ⟨⟨w0, b1, false, sa, b, t0, its, n0, [], its'⟩, u, acc, na⟩ ia) h₀ R₁ d os) (sD1 ⟨⟨w0, b1, false, sa, b, t0, its, n0, [], its'⟩, u, acc, na⟩ X p nx tk)) :
    GoX (vb (VD ⟨⟨w0, b1, false, sa, b, t0, its, n0, [], its'⟩, u, acc, na⟩ ia) h₀ R₁ d os) (hdB (VD ⟨⟨w0, b1, false, sa, b, t0, its, n0, [], its'⟩, u, acc, na⟩ ia) (sD1 ⟨⟨w0, b1, false, sa, b, t0, its, n0, [], its'⟩, u, acc, na⟩ ⟨turn, tu, ia, j, m + 1, lc, x0, tq, rest, ra, nr, [(a1, e1)], no, [(f1, g1)], cv, k1, v1, k2, v2, sl⟩ p nx tk) 14 402654723 ia j m (b + 11) (b + 7) turn tu' ta (.str xv tv) (.int (.ofNat (n + 1)) v) 16 nx' tk') := by
  refine sx (by show 1 ≤ 2; decide) 223 125751003837114594848016232441143932624126113572095543313773848277540163502256623612528502340932565341329739087422935089382150381327437712556324659956232381434205643024040641536360636696131347217509622871646723331670669582607363319987989086608193790273241454426932291454640657 (by refine bk b1 ?_ ?_ <;> kernel_rfl) (by refine bk b1 ?_ ?_ <;> kernel_rfl) ?_
  refine GoX.call (.call (.ref 177) ⟨[.str xv tv, .int 32 520], []⟩) none (by refine bk b1 ?_ ?_ <;> kernel_rfl) AX rfl (by refine bk b1 ?_ ?_ <;> kernel_rfl) ?_
  intro h D
  refine hW h _ _ D.known fun uu h2 t2 F => ?_
  refine GoX.fromB 29 (P := (Dw.toLw ⟨⟨w0, b1, false, sa, b, t0, its, n0, [], its'⟩, u, acc, na⟩).w.params) (by refine bk b1 ?_ ?_ <;> kernel_rfl) (D.step F rfl) fun q => ?_
  refine sx (by show 1 ≤ 2; decide) 1017 271807514640290929476649235698551961447031941451127516673763541456657163650146754521131938973255429945954091557552269851177322014504533066060821463370287979741880260399347806301978264655886126549699120101144571471693451581574165720069398745390856043753094875289949974080298955212053505538745771567428253383177816141718969393035155783190326694407826579423750773179255340898969037589176583177524421946437058647151188163255896534752605486302319762756556370930009221112301679110405450438937649093246838152730207369171719192171601203905710696201116551827485359891576837310617334385629547190527699229162835242634576366134296393508609646577217681990032727379923068391821324221387500724582263003589054245138599161954974799772052103607974388914118710496489525207795804017899161101696646246356646374695788130313541324650728870012800363325937398943779227346387325597818966360299289551734763317720117089980496826505065724131196348733547440063499401241847643433475736056500236942965161420547942682258804640793052510976871108142470367445427250002106317437158345775556841450214444899305333975028545179298134015244229040945693 (by refine bk b1 ?_ ?_ <;> kernel_rfl) (by refine bk b1 ?_ ?_ <;> kernel_rfl) ?_
  refine GoX.cutF [0, 1, 2, 3, 4, 5, 6, 7, 8, 9, 10, 11, 12, 13, 21, 15] (fun S => sD1 ⟨⟨w0, b1, false, sa, b, t0, its, n0, [], its'⟩, u, acc, na⟩ (T1.of 21 15 (turn + 1) tu' ia (j + 1) m S.T) S.p S.nx S.tk) (by refine bk b1 ?_ ?_ <;> kernel_rfl) (by refine bk b1 ?_ ?_ <;> kernel_rfl) (by refine bk b1 ?_ ?_ <;> kernel_rfl) (by decide) (by refine bk b1 ?_ ?_ <;> kernel_rfl) ?_
  refine next _ _ _ _ ?_ ?_ ?_ ?_ ?_ ?_
  · rfl
  · rfl
  · rfl
  · refine bk b1 ?_ ?_ <;> kernel_rfl
  · refine bk b1 ?_ ?_ <;> kernel_rfl
  · refine bk b1 ?_ ?_ <;> kernel_rfl
theorem wkN_pos_1_bt (turn : Int) (tu ia j m lc : Nat) (x0 : Value) (tq : Nat) (rest : List Value) (ra nr : Nat) (a1 e1 f1 g1 : Nat) (no : Nat) (cv : Value) (k1 : Nat) (v1 : Value) (k2 : Nat) (v2 : Value) (sl : Array (Option Value)) (p : Pos) (nx tk : Nat) (xv : Str) (tv : Nat) (n tu' ta v nx' tk' : Nat) (hW : WholeOf (Dw.toLw ⟨⟨w0, b1, true, sa, b, t0, its, n0, [], its'⟩, u, acc, na⟩).w d os (.str xv tv) fun u => .int (.ofNat (n + 1)) u)
    (next : ∀ (X : T1) (p : Pos) (nx tk : Nat), X.ia = ia → X.turn = turn + 1 → X.m = m → X.rs.length = 2 → X.os.length = 2 → X.sl = sl → GoX (vb (VD ⟨⟨w0, b1, true, sa, b, t0, its, n0, [], its'⟩, u, acc, na⟩ ia) h₀ R₁ d os) (sD1 ⟨⟨w0, b1, true, sa, b, t0, its, n0, [], its'⟩, u, acc, na⟩ X p nx tk)) :
    GoX (vb (VD ⟨⟨w0, b1, true, sa, b, t0, its, n0, [], its'⟩, u, acc, na⟩ ia) h₀ R₁ d os) (hdB (VD ⟨⟨w0, b1, true, sa, b, t0, its, n0, [], its'⟩, u, acc, na⟩ ia) (sD1 ⟨⟨w0, b1, true, sa, b, t0, its, n0, [], its'⟩, u, acc, na⟩ ⟨turn, tu, ia, j, m + 1, lc, x0, tq, rest, ra, nr, [(a1, e1)], no, [(f1, g1)], cv, k1, v1, k2, v2, sl⟩ p nx tk) 14 402654723 ia j m (b + 11) (b + 7) turn tu' ta (.str xv tv) (.int (.ofNat (n + 1)) v) 16 nx' tk') := by
  refine sx (by show 1 ≤ 2; decide) 223 125751003837114594848016232441143932624126113572095543313773848277540163502256623612528502340932565341329739087422935089382150381327437712556324659956232381434205643024040641536360636696131347217509622871646723331670669582607363319987989086608193790273241454426932291454640657 (by refine bk b1 ?_ ?_ <;> kernel_rfl) (by refine bk b1 ?_ ?_ <;> kernel_rfl) ?_
  refine GoX.call (.call (.ref 177) ⟨[.str xv tv, .int 32 520], []⟩) none (by refine bk b1 ?_ ?_ <;> kernel_rfl) AX rfl (by refine bk b1 ?_ ?_ <;> kernel_rfl) ?_
  intro h D
  refine hW h _ _ D.known fun uu h2 t2 F => ?_
  refine GoX.fromB 29 (P := (Dw.toLw ⟨⟨w0, b1, true, sa, b, t0, its, n0, [], its'⟩, u, acc, na⟩).w.params) (by refine bk b1 ?_ ?_ <;> kernel_rfl) (D.step F rfl) fun q => ?_
  refine sx (by show 1 ≤ 2; decide) 997 57557480052908003516579846331830533584737639458997550813623832287187288094214730394078689206312607818922511804048155532559275292289222507384183931470331066670440335477729468085156185286954199559789621627254023196511655937415669148953764310232567254054399729279443839467364843400230259274899485127402444711540611710863487584011426150578219195225625539121093674634254407745990978877035901481039758340359623769025587635269743647563538243263727289316213603416632039413044121609206441274293014955014373365793470159719113061950043265153468966706146980068416862902253972475907541025492357301630522919706097969321693454537450751614814596423982865836990647639186746702935097311916523134892937611046968402669107961105136235464103107765567298301708413782026737877497313936490231400574305241624301324482141698929592754812524055753021941045299368798066702930641222156192210405458761290688519212866219460370741126360362779589749780708425635688637040048921531805384638757706969101685447002697866157269420426704647328929225626046414307360661248927011107427622233797051707258206095158914557605922909469213 (by refine bk b1 ?_ ?_ <;> kernel_rfl) (by refine bk b1 ?_ ?_ <;> kernel_rfl) ?_
  refine GoX.cutF [0, 1, 2, 3, 4, 5, 6, 7, 8, 9, 10, 11, 12, 13, 21, 15] (fun S => sD1 ⟨⟨w0, b1, true, sa, b, t0, its, n0, [], its'⟩, u, acc, na⟩ (T1.of 21 15 (turn + 1) tu' ia (j + 1) m S.T) S.p S.nx S.tk) (by refine bk b1 ?_ ?_ <;> kernel_rfl) (by refine bk b1 ?_ ?_ <;> kernel_rfl) (by refine bk b1 ?_ ?_ <;> kernel_rfl) (by decide) (by refine bk b1 ?_ ?_ <;> kernel_rfl) ?_
  refine next _ _ _ _ ?_ ?_ ?_ ?_ ?_ ?_
  · rfl
  · rfl
  · rfl
  · refine bk b1 ?_ ?_ <;> kernel_rfl
  · refine bk b1 ?_ ?_ <;> kernel_rfl
  · refine bk b1 ?_ ?_ <;> kernel_rfl
theorem wkN_pos_2_bf (turn : Int) (tu ia j m lc : Nat) (x0 : Value) (tq : Nat) (rest : List Value) (ra nr : Nat) (a1 e1 f1 g1 : Nat) (a2 e2 f2 g2 : Nat) (no : Nat) (cv : Value) (k1 : Nat) (v1 : Value) (k2 : Nat) (v2 : Value) (sl : Array (Option Value)) (p : Pos) (nx tk : Nat) (xv : Str) (tv : Nat) (n tu' ta v nx' tk' : Nat) (hW : WholeOf (Dw.toLw ⟨⟨w0, b1, false, sa, b, t0, its, n0, [], its'⟩, u, acc, na⟩).w d os (.str xv tv) fun u => .int (.ofNat (n + 1)) u)
    (next : ∀ (X : T1) (p : Pos) (nx tk : Nat), X.ia = ia → X.turn = turn + 1 → X.m = m → X.rs.length = 3 → X.os.length = 3 → X.sl = sl → GoX (vb (VD ⟨⟨w0, b1, false, sa, b, t0, its, n0, [], its'⟩, u, acc, na⟩ ia) h₀ R₁ d os) (sD1 ⟨⟨w0, b1, false, sa, b, t0, its, n0, [], its'⟩, u, acc, na⟩ X p nx tk)) :
    GoX (vb (VD ⟨⟨w0, b1, false, sa, b, t0, its, n0, [], its'⟩, u, acc, na⟩ ia) h₀ R₁ d os) (hdB (VD ⟨⟨w0, b1, false, sa, b, t0, its, n0, [], its'⟩, u, acc, na⟩ ia) (sD1 ⟨⟨w0, b1, false, sa, b, t0, its, n0, [], its'⟩, u, acc, na⟩ ⟨turn, tu, ia, j, m + 1, lc, x0, tq, rest, ra, nr, [(a1, e1), (a2, e2)], no, [(f1, g1), (f2, g2)], cv, k1, v1, k2, v2, sl⟩ p nx tk) 14 402654723 ia j m (b + 11) (b + 7) turn tu' ta (.str xv tv) (.int (.ofNat (n + 1)) v) 16 nx' tk') := by
  refine sx (by show 1 ≤ 2; decide) 223 125751003837114594848016232441143932624126113572095543313773848277540163502256623612528502340932565341329739087422935089382150381327437712556324659956232381434205643024040641536360636696131347217509622871646723331670669582607363319987989086608193790273241454426932291454640657 (by refine bk b1 ?_ ?_ <;> kernel_rfl) (by refine bk b1 ?_ ?_ <;> kernel_rfl) ?_
  refine GoX.call (.call (.ref 177) ⟨[.str xv tv, .int 32 520], []⟩) none (by refine bk b1 ?_ ?_ <;> kernel_rfl) AX rfl (by refine bk b1 ?_ ?_ <;> kernel_rfl) ?_
  intro h D
  refine hW h _ _ D.known fun uu h2 t2 F => ?_
  refine GoX.fromB 29 (P := (Dw.toLw ⟨⟨w0, b1, false, sa, b, t0, its, n0, [], its'⟩, u, acc, na⟩).w.params) (by refine bk b1 ?_ ?_ <;> kernel_rfl) (D.step F rfl) fun q => ?_
  refine sx (by show 1 ≤ 2; decide) 1017 271807514640290929476649235698551961447031941451127516673763541456657163650146754521131938973255429945954091557552269851177322014504533066060821463370287979741880260399347806301978264655886126549699120101144571471693451581574165720069398745390856043753094875289949974080298955212053505538745771567428253383177816141718969393035155783190326694407826579423750773179255340898969037589176583177524421946437058647151188163255896534752605486302319762756556370930009221112301679110405450438937649093246838152730207369171719192171601203905710696201116551827485359891576837310617334385629547190527699229162835242634576366134296393508609646577217681990032727379923068391821324221387500724582263003589054245138599161954974799772052103607974388914118710496489525207795804017899161101696646246356646374695788130313541324650728870012800363325937398943779227346387325597818966360299289551734763317720117089980496826505065724131196348733547440063499401241847643433475736056500236942965161420547942682258804640793052510976871108142470367445427250002106317437158345775556841450214444899305333975028545179298134015244229040945693 (by refine bk b1 ?_ ?_ <;> kernel_rfl) (by refine bk b1 ?_ ?_ <;> kernel_rfl) ?_
  refine GoX.cutF [0, 1, 2, 3, 4, 5, 6, 7, 8, 9, 10, 11, 12, 13, 21, 15] (fun S => sD1 ⟨⟨w0, b1, false, sa, b, t0, its, n0, [], its'⟩, u, acc, na⟩ (T1.of 21 15 (turn + 1) tu' ia (j + 1) m S.T) S.p S.nx S.tk) (by refine bk b1 ?_ ?_ <;> kernel_rfl) (by refine bk b1 ?_ ?_ <;> kernel_rfl) (by refine bk b1 ?_ ?_ <;> kernel_rfl) (by decide) (by refine bk b1 ?_ ?_ <;> kernel_rfl) ?_
  refine next _ _ _ _ ?_ ?_ ?_ ?_ ?_ ?_
  · rfl
  · rfl
  · rfl
  · refine bk b1 ?_ ?_ <;> kernel_rfl
  · refine bk b1 ?_ ?_ <;> kernel_rfl
  · refine bk b1 ?_ ?_ <;> kernel_rfl
theorem wkN_pos_2_bt (turn : Int) (tu ia j m lc : Nat) (x0 : Value) (tq : Nat) (rest : List Value) (ra nr : Nat) (a1 e1 f1 g1 : Nat) (a2 e2 f2 g2 : Nat) (no : Nat) (cv : Value) (k1 : Nat) (v1 : Value) (k2 : Nat) (v2 : Value) (sl : Array (Option Value)) (p : Pos) (nx tk : Nat) (xv : Str) (tv : Nat) (n tu' ta v nx' tk' : Nat) (hW : WholeOf (Dw.toLw ⟨⟨w0, b1, true, sa, b, t0, its, n0, [], its'⟩, u, acc, na⟩).w d os (.str xv tv) fun u => .int (.ofNat (n + 1)) u)
    (next : ∀ (X : T1) (p : Pos) (nx tk : Nat), X.ia = ia → X.turn = turn + 1 → X.m = m → X.rs.length = 3 → X.os.length = 3 → X.sl = sl → GoX (vb (VD ⟨⟨w0, b1, true, sa, b, t0, its, n0, [], its'⟩, u, acc, na⟩ ia) h₀ R₁ d os) (sD1 ⟨⟨w0, b1, true, sa, b, t0, its, n0, [], its'⟩, u, acc, na⟩ X p nx tk)) :
    GoX (vb (VD ⟨⟨w0, b1, true, sa, b, t0, its, n0, [], its'⟩, u, acc, na⟩ ia) h₀ R₁ d os) (hdB (VD ⟨⟨w0, b1, true, sa, b, t0, its, n0, [], its'⟩, u, acc, na⟩ ia) (sD1 ⟨⟨w0, b1, true, sa, b, t0, its, n0, [], its'⟩, u, acc, na⟩ ⟨turn, tu, ia, j, m + 1, lc, x0, tq, rest, ra, nr, [(a1, e1), (a2, e2)], no, [(f1, g1), (f2, g2)], cv, k1, v1, k2, v2, sl⟩ p nx tk) 14 402654723 ia j m (b + 11) (b + 7) turn tu' ta (.str xv tv) (.int (.ofNat (n + 1)) v) 16 nx' tk') := by
  refine sx (by show 1 ≤ 2; decide) 223 125751003837114594848016232441143932624126113572095543313773848277540163502256623612528502340932565341329739087422935089382150381327437712556324659956232381434205643024040641536360636696131347217509622871646723331670669582607363319987989086608193790273241454426932291454640657 (by refine bk b1 ?_ ?_ <;> kernel_rfl) (by refine bk b1 ?_ ?_ <;> kernel_rfl) ?_
  refine GoX.call (.call (.ref 177) ⟨[.str xv tv, .int 32 520], []⟩) none (by refine bk b1 ?_ ?_ <;> kernel_rfl) AX rfl (by refine bk b1 ?_ ?_ <;> kernel_rfl) ?_
  intro h D
  refine hW h _ _ D.known fun uu h2 t2 F => ?_
  refine GoX.fromB 29 (P := (Dw.toLw ⟨⟨w0, b1, true, sa, b, t0, its, n0, [], its'⟩, u, acc, na⟩).w.params) (by refine bk b1 ?_ ?_ <;> kernel_rfl) (D.step F rfl) fun q => ?_
  refine sx (by show 1 ≤ 2; decide) 997 57557480052908003516579846331830533584737639458997550813623832287187288094214730394078689206312607818922511804048155532559275292289222507384183931470331066670440335477729468085156185286954199559789621627254023196511655937415669148953764310232567254054399729279443839467364843400230259274899485127402444711540611710863487584011426150578219195225625539121093674634254407745990978877035901481039758340359623769025587635269743647563538243263727289316213603416632039413044121609206441274293014955014373365793470159719113061950043265153468966706146980068416862902253972475907541025492357301630522919706097969321693454537450751614814596423982865836990647639186746702935097311916523134892937611046968402669107961105136235464103107765567298301708413782026737877497313936490231400574305241624301324482141698929592754812524055753021941045299368798066702930641222156192210405458761290688519212866219460370741126360362779589749780708425635688637040048921531805384638757706969101685447002697866157269420426704647328929225626046414307360661248927011107427622233797051707258206095158914557605922909469213 (by refine bk b1 ?_ ?_ <;> kernel_rfl) (by refine bk b1 ?_ ?_ <;> kernel_rfl) ?_
  refine GoX.cutF [0, 1, 2, 3, 4, 5, 6, 7, 8, 9, 10, 11, 12, 13, 21, 15] (fun S => sD1 ⟨⟨w0, b1, true, sa, b, t0, its, n0, [], its'⟩, u, acc, na⟩ (T1.of 21 15 (turn + 1) tu' ia (j + 1) m S.T) S.p S.nx S.tk) (by refine bk b1 ?_ ?_ <;> kernel_rfl) (by refine bk b1 ?_ ?_ <;> kernel_rfl) (by refine bk b1 ?_ ?_ <;> kernel_rfl) (by decide) (by refine bk b1 ?_ ?_ <;> kernel_rfl) ?_
  refine next _ _ _ _ ?_ ?_ ?_ ?_ ?_ ?_
  · rfl
  · rfl
  · rfl
  · refine bk b1 ?_ ?_ <;> kernel_rfl
  · refine bk b1 ?_ ?_ <;> kernel_rfl
  · refine bk b1 ?_ ?_ <;> kernel_rfl
theorem wkN_posi_0_bf (turn : Int) (tu ia j m lc : Nat) (x0 : Value) (tq : Nat) (rest : List Value) (ra nr : Nat) (no : Nat) (cv : Value) (k1 : Nat) (v1 : Value) (k2 : Nat) (v2 : Value) (sl : Array (Option Value)) (p : Pos) (nx tk : Nat) (kv : Int) (tv : Nat) (n tu' ta v nx' tk' : Nat) (hW : WholeOf (Dw.toLw ⟨⟨w0, b1, false, sa, b, t0, its, n0, [], its'⟩, u, acc, na⟩).w d os (.int kv tv) fun u => .int (.ofNat (n + 1)) u)
    (next : ∀ (X : T1) (p : Pos) (nx tk : Nat), X.ia = ia → X.turn = turn + 1 → X.m = m → X.rs.length = 1 → X.os.length = 1 → X.sl = sl → GoX (vb (VD ⟨⟨w0, b1, false, sa, b, t0, its, n0, [], its'⟩, u, acc, na⟩ ia) h₀ R₁ d os) (sD1 ⟨⟨w0, b1, false, sa, b, t0, its, n0, [], its'⟩, u, acc, na⟩ X p nx tk)) :
    GoX (vb (VD ⟨⟨w0, b1, false, sa, b, t0, its, n0, [], its'⟩, u, acc, na⟩ ia) h₀ R₁ d os) (hdB (VD ⟨⟨w0, b1, false, sa, b, t0, its, n0, [], its'⟩, u, acc, na⟩ ia) (sD1 ⟨⟨w0, b1, false, sa, b, t0, its, n0, [], its'⟩, u, acc, na⟩ ⟨turn, tu, ia, j, m + 1, lc, x0, tq, rest, ra, nr, [], no, [], cv, k1, v1, k2, v2, sl⟩ p nx tk) 14 402654723 ia j m (b + 11) (b + 7) turn tu' ta (.int kv tv) (.int (.ofNat (n + 1)) v) 16 nx' tk') := by
  refine sx (by show 1 ≤ 2; decide) 223 125751003837114594848016232441143932624126113572095543313773848277540163502256623612528502340932565341329739087422935089382150381327437712556324659956232381434205643024040641536360636696131347217509622871646723331670669582607363319987989086608193790273241454426932291454640657 (by refine bk b1 ?_ ?_ <;> kernel_rfl) (by refine bk b1 ?_ ?_ <;> kernel_rfl) ?_
  refine GoX.call (.call (.ref 177) ⟨[.int kv tv, .int 32 520], []⟩) none (by refine bk b1 ?_ ?_ <;> kernel_rfl) AX rfl (by refine bk b1 ?_ ?_ <;> kernel_rfl) ?_
  intro h D
  refine hW h _ _ D.known fun uu h2 t2 F => ?_
  refine GoX.fromB 29 (P := (Dw.toLw ⟨⟨w0, b1, false, sa, b, t0, its, n0, [], its'⟩, u, acc, na⟩).w.params) (by refine bk b1 ?_ ?_ <;> kernel_rfl) (D.step F rfl) fun q => ?_
  refine sx (by show 1 ≤ 2; decide) 1017 271807514640290929476649235698551961447031941451127516673763541456657163650146754521131938973255429945954091557552269851177322014504533066060821463370287979741880260399347806301978264655886126549699120101144571471693451581574165720069398745390856043753094875289949974080298955212053505538745771567428253383177816141718969393035155783190326694407826579423750773179255340898969037589176583177524421946437058647151188163255896534752605486302319762756556370930009221112301679110405450438937649093246838152730207369171719192171601203905710696201116551827485359891576837310617334385629547190527699229162835242634576366134296393508609646577217681990032727379923068391821324221387500724582263003589054245138599161954974799772052103607974388914118710496489525207795804017899161101696646246356646374695788130313541324650728870012800363325937398943779227346387325597818966360299289551734763317720117089980496826505065724131196348733547440063499401241847643433475736056500236942965161420547942682258804640793052510976871108142470367445427250002106317437158345775556841450214444899305333975028545179298134015244229040945693 (by refine bk b1 ?_ ?_ <;> kernel_rfl) (by refine bk b1 ?_ ?_ <;> kernel_rfl) ?_
  refine GoX.cutF [0, 1, 2, 3, 4, 5, 6, 7, 8, 9, 10, 11, 12, 13, 21, 15] (fun S => sD1 ⟨⟨w0, b1, false, sa, b, t0, its, n0, [], its'⟩, u, acc, na⟩ (T1.of 21 15 (turn + 1) tu' ia (j + 1) m S.T) S.p S.nx S.tk) (by refine bk b1 ?_ ?_ <;> kernel_rfl) (by refine bk b1 ?_ ?_ <;> kernel_rfl) (by refine bk b1 ?_ ?_ <;> kernel_rfl) (by decide) (by refine bk b1 ?_ ?_ <;> kernel_rfl) ?_
  refine next _ _ _ _ ?_ ?_ ?_ ?_ ?_ ?_
  · rfl
  · rfl
  · rfl
  · refine bk b1 ?_ ?_ <;> kernel_rfl
  · refine bk b1 ?_ ?_ <;> kernel_rfl
  · refine bk b1 ?_ ?_ <;> kernel_rfl
theorem wkN_posi_0_bt (turn : Int) (tu ia j m lc : Nat) (x0 : Value) (tq : Nat) (rest : List Value) (ra nr : Nat) (no : Nat) (cv : Value) (k1 : Nat) (v1 : Value) (k2 : Nat) (v2 : Value) (sl : Array (Option Value)) (p : Pos) (nx tk : Nat) (kv : Int) (tv : Nat) (n tu' ta v nx' tk' : Nat) (hW : WholeOf (Dw.toLw ⟨⟨w0, b1, true, sa, b, t0, its, n0, [], its'⟩, u, acc, na⟩).w d os (.int kv tv) fun u => .int (.ofNat (n + 1)) u)
    (next : ∀ (X : T1) (p : Pos) (nx tk : Nat), X.ia = ia → X.turn = turn + 1 → X.m = m → X.rs.length = 1 → X.os.length = 1 → X.sl = sl → GoX (vb (VD ⟨⟨w0, b1, true, sa, b, t0, its, n0, [], its'⟩, u, acc, na⟩ ia) h₀ R₁ d os) (sD1 ⟨⟨w0, b1, true, sa, b, t0, its, n0, [], its'⟩, u, acc, na⟩ X p nx tk)) :
    GoX (vb (VD ⟨⟨w0, b1, true, sa, b, t0, its, n0, [], its'⟩, u, acc, na⟩ ia) h₀ R₁ d os) (hdB (VD ⟨⟨w0, b1, true, sa, b, t0, its, n0, [], its'⟩, u, acc, na⟩ ia) (sD1 ⟨⟨w0, b1, true, sa, b, t0, its, n0, [], its'⟩, u, acc, na⟩ ⟨turn, tu, ia, j, m + 1, lc, x0, tq, rest, ra, nr, [], no, [], cv, k1, v1, k2, v2, sl⟩ p nx tk) 14 402654723 ia j m (b + 11) (b + 7) turn tu' ta (.int kv tv) (.int (.ofNat (n + 1)) v) 16 nx' tk') := by
  refine sx (by show 1 ≤ 2; decide) 223 125751003837114594848016232441143932624126113572095543313773848277540163502256623612528502340932565341329739087422935089382150381327437712556324659956232381434205643024040641536360636696131347217509622871646723331670669582607363319987989086608193790273241454426932291454640657 (by refine bk b1 ?_ ?_ <;> kernel_rfl) (by refine bk b1 ?_ ?_ <;> kernel_rfl) ?_
  refine GoX.call (.call (.ref 177) ⟨[.int kv tv, .int 32 520], []⟩) none (by refine bk b1 ?_ ?_ <;> kernel_rfl) AX rfl (by refine bk b1 ?_ ?_ <;> kernel_rfl) ?_
  intro h D
  refine hW h _ _ D.known fun uu h2 t2 F => ?_
  refine GoX.fromB 29 (P := (Dw.toLw ⟨⟨w0, b1, true, sa, b, t0, its, n0, [], its'⟩, u, acc, na⟩).w.params) (by refine bk b1 ?_ ?_ <;> kernel_rfl) (D.step F rfl) fun q => ?_
  refine sx (by show 1 ≤ 2; decide) 997 57557480052908003516579846331830533584737639458997550813623832287187288094214730394078689206312607818922511804048155532559275292289222507384183931470331066670440335477729468085156185286954199559789621627254023196511655937415669148953764310232567254054399729279443839467364843400230259274899485127402444711540611710863487584011426150578219195225625539121093674634254407745990978877035901481039758340359623769025587635269743647563538243263727289316213603416632039413044121609206441274293014955014373365793470159719113061950043265153468966706146980068416862902253972475907541025492357301630522919706097969321693454537450751614814596423982865836990647639186746702935097311916523134892937611046968402669107961105136235464103107765567298301708413782026737877497313936490231400574305241624301324482141698929592754812524055753021941045299368798066702930641222156192210405458761290688519212866219460370741126360362779589749780708425635688637040048921531805384638757706969101685447002697866157269420426704647328929225626046414307360661248927011107427622233797051707258206095158914557605922909469213 (by refine bk b1 ?_ ?_ <;> kernel_rfl) (by refine bk b1 ?_ ?_ <;> kernel_rfl) ?_
  refine GoX.cutF [0, 1, 2, 3, 4, 5, 6, 7, 8, 9, 10, 11, 12, 13, 21, 15] (fun S => sD1 ⟨⟨w0, b1, true, sa, b, t0, its, n0, [], its'⟩, u, acc, na⟩ (T1.of 21 15 (turn + 1) tu' ia (j + 1) m S.T) S.p S.nx S.tk) (by refine bk b1 ?_ ?_ <;> kernel_rfl) (by refine bk b1 ?_ ?_ <;> kernel_rfl) (by refine bk b1 ?_ ?_ <;> kernel_rfl) (by decide) (by refine bk b1 ?_ ?_ <;> kernel_rfl) ?_
  refine next _ _ _ _ ?_ ?_ ?_ ?_ ?_ ?_
  · rfl
  · rfl
  · rfl
  · refine bk b1 ?_ ?_ <;> kernel_rfl
  · refine bk b1 ?_ ?_ <;> kernel_rfl
  · refine bk b1 ?_ ?_ <;> kernel_rfl
theorem wkN_posi_1_bf (turn : Int) (tu ia j m lc : Nat) (x0 : Value) (tq : Nat) (rest : List Value) (ra nr : Nat) (a1 e1 f1 g1 : Nat) (no : Nat) (cv : Value) (k1 : Nat) (v1 : Value) (k2 : Nat) (v2 : Value) (sl : Array (Option Value)) (p : Pos) (nx tk : Nat) (kv : Int) (tv : Nat) (n tu' ta v nx' tk' : Nat) (hW : WholeOf (Dw.toLw ⟨⟨w0, b1, false, sa, b, t0, its, n0, [], its'⟩, u, acc, na⟩).w d os (.int kv tv) fun u => .int (.ofNat (n + 1)) u)
    (next : ∀ (X : T1) (p : Pos) (nx tk : Nat), X.ia = ia → X.turn = turn + 1 → X.m = m → X.rs.length = 2 → X.os.length = 2 → X.sl = sl → GoX (vb (VD ⟨⟨w0, b1, false, sa, b, t0, its, n0, [], its'⟩, u, acc, na⟩ ia) h₀ R₁ d os) (sD1 ⟨⟨w0, b1, false, sa, b, t0, its, n0, [], its'⟩, u, acc, na⟩ X p nx tk)) :
    GoX (vb (VD ⟨⟨w0, b1, false, sa, b, t0, its, n0, [], its'⟩, u, acc, na⟩ ia) h₀ R₁ d os) (hdB (VD ⟨⟨w0, b1, false, sa, b, t0, its, n0, [], its'⟩, u, acc, na⟩ ia) (sD1 ⟨⟨w0, b1, false, sa, b, t0, its, n0, [], its'⟩, u, acc, na⟩ ⟨turn, tu, ia, j, m + 1, lc, x0, tq, rest, ra, nr, [(a1, e1)], no, [(f1, g1)], cv, k1, v1, k2, v2, sl⟩ p nx tk) 14 402654723 ia j m (b + 11) (b + 7) turn tu' ta (.int kv tv) (.int (.ofNat (n + 1)) v) 16 nx' tk') := by
  refine sx (by show 1 ≤ 2; decide) 223 125751003837114594848016232441143932624126113572095543313773848277540163502256623612528502340932565341329739087422935089382150381327437712556324659956232381434205643024040641536360636696131347217509622871646723331670669582607363319987989086608193790273241454426932291454640657 (by refine bk b1 ?_ ?_ <;> kernel_rfl) (by refine bk b1 ?_ ?_ <;> kernel_rfl) ?_
  refine GoX.call (.call (.ref 177) ⟨[.int kv tv, .int 32 520], []⟩) none (by refine bk b1 ?_ ?_ <;> kernel_rfl) AX rfl (by refine bk b1 ?_ ?_ <;> kernel_rfl) ?_
  intro h D
  refine hW h _ _ D.known fun uu h2 t2 F => ?_
  refine GoX.fromB 29 (P := (Dw.toLw ⟨⟨w0, b1, false, sa, b, t0, its, n0, [], its'⟩, u, acc, na⟩).w.params) (by refine bk b1 ?_ ?_ <;> kernel_rfl) (D.step F rfl) fun q => ?_
  refine sx (by show 1 ≤ 2; decide) 1017 271807514640290929476649235698551961447031941451127516673763541456657163650146754521131938973255429945954091557552269851177322014504533066060821463370287979741880260399347806301978264655886126549699120101144571471693451581574165720069398745390856043753094875289949974080298955212053505538745771567428253383177816141718969393035155783190326694407826579423750773179255340898969037589176583177524421946437058647151188163255896534752605486302319762756556370930009221112301679110405450438937649093246838152730207369171719192171601203905710696201116551827485359891576837310617334385629547190527699229162835242634576366134296393508609646577217681990032727379923068391821324221387500724582263003589054245138599161954974799772052103607974388914118710496489525207795804017899161101696646246356646374695788130313541324650728870012800363325937398943779227346387325597818966360299289551734763317720117089980496826505065724131196348733547440063499401241847643433475736056500236942965161420547942682258804640793052510976871108142470367445427250002106317437158345775556841450214444899305333975028545179298134015244229040945693 (by refine bk b1 ?_ ?_ <;> kernel_rfl) (by refine bk b1 ?_ ?_ <;> kernel_rfl) ?_
  refine GoX.cutF [0, 1, 2, 3, 4, 5, 6, 7, 8, 9, 10, 11, 12, 13, 21, 15] (fun S => sD1 ⟨⟨w0, b1, false, sa, b, t0, its, n0, [], its'⟩, u, acc, na⟩ (T1.of 21 15 (turn + 1) tu' ia (j + 1) m S.T) S.p S.nx S.tk) (by refine bk b1 ?_ ?_ <;> kernel_rfl) (by refine bk b1 ?_ ?_ <;> kernel_rfl) (by refine bk b1 ?_ ?_ <;> kernel_rfl) (by decide) (by refine bk b1 ?_ ?_ <;> kernel_rfl) ?_
  refine next _ _ _ _ ?_ ?_ ?_ ?_ ?_ ?_
  · rfl
  · rfl
  · rfl
  · refine bk b1 ?_ ?_ <;> kernel_rfl
  · refine bk b1 ?_ ?_ <;> kernel_rfl
  · refine bk b1 ?_ ?_ <;> kernel_rfl
theorem wkN_posi_1_bt (turn : Int) (tu ia j m lc : Nat) (x0 : Value) (tq : Nat) (rest : List Value) (ra nr : Nat) (a1 e1 f1 g1 : Nat) (no : Nat) (cv : Value) (k1 : Nat) (v1 : Value) (k2 : Nat) (v2 : Value) (sl : Array (Option Value)) (p : Pos) (nx tk : Nat) (kv : Int) (tv : Nat) (n tu' ta v nx' tk' : Nat) (hW : WholeOf (Dw.toLw ⟨⟨w0, b1, true, sa, b, t0, its, n0, [], its'⟩, u, acc, na⟩).w d os (.int kv tv) fun u => .int (.ofNat (n + 1)) u)
    (next : ∀ (X : T1) (p : Pos) (nx tk : Nat), X.ia = ia → X.turn = turn + 1 → X.m = m → X.rs.length = 2 → X.os.length = 2 → X.sl = sl → GoX (vb (VD ⟨⟨w0, b1, true, sa, b, t0, its, n0, [], its'⟩, u, acc, na⟩ ia) h₀ R₁ d os) (sD1 ⟨⟨w0, b1, true, sa, b, t0, its, n0, [], its'⟩, u, acc, na⟩ X p nx tk)) :
    GoX (vb (VD ⟨⟨w0, b1, true, sa, b, t0, its, n0, [], its'⟩, u, acc, na⟩ ia) h₀ R₁ d os) (hdB (VD ⟨⟨w0, b1, true, sa, b, t0, its, n0, [], its'⟩, u, acc, na⟩ ia) (sD1 ⟨⟨w0, b1, true, sa, b, t0, its, n0, [], its'⟩, u, acc, na⟩ ⟨turn, tu, ia, j, m + 1, lc, x0, tq, rest, ra, nr, [(a1, e1)], no, [(f1, g1)], cv, k1, v1, k2, v2, sl⟩ p nx tk) 14 402654723 ia j m (b + 11) (b + 7) turn tu' ta (.int kv tv) (.int (.ofNat (n + 1)) v) 16 nx' tk') := by
  refine sx (by show 1 ≤ 2; decide) 223 125751003837114594848016232441143932624126113572095543313773848277540163502256623612528502340932565341329739087422935089382150381327437712556324659956232381434205643024040641536360636696131347217509622871646723331670669582607363319987989086608193790273241454426932291454640657 (by refine bk b1 ?_ ?_ <;> kernel_rfl) (by refine bk b1 ?_ ?_ <;> kernel_rfl) ?_
  refine GoX.call (.call (.ref 177) ⟨[.int kv tv, .int 32 520], []⟩) none (by refine bk b1 ?_ ?_ <;> kernel_rfl) AX rfl (by refine bk b1 ?_ ?_ <;> kernel_rfl) ?_
  intro h D
  refine hW h _ _ D.known fun uu h2 t2 F => ?_
  refine GoX.fromB 29 (P := (Dw.toLw ⟨⟨w0, b1, true, sa, b, t0, its, n0, [], its'⟩, u, acc, na⟩).w.params) (by refine bk b1 ?_ ?_ <;> kernel_rfl) (D.step F rfl) fun q => ?_
  refine sx (by show 1 ≤ 2; decide) 997 57557480052908003516579846331830533584737639458997550813623832287187288094214730394078689206312607818922511804048155532559275292289222507384183931470331066670440335477729468085156185286954199559789621627254023196511655937415669148953764310232567254054399729279443839467364843400230259274899485127402444711540611710863487584011426150578219195225625539121093674634254407745990978877035901481039758340359623769025587635269743647563538243263727289316213603416632039413044121609206441274293014955014373365793470159719113061950043265153468966706146980068416862902253972475907541025492357301630522919706097969321693454537450751614814596423982865836990647639186746702935097311916523134892937611046968402669107961105136235464103107765567298301708413782026737877497313936490231400574305241624301324482141698929592754812524055753021941045299368798066702930641222156192210405458761290688519212866219460370741126360362779589749780708425635688637040048921531805384638757706969101685447002697866157269420426704647328929225626046414307360661248927011107427622233797051707258206095158914557605922909469213 (by refine bk b1 ?_ ?_ <;> kernel_rfl) (by refine bk b1 ?_ ?_ <;> kernel_rfl) ?_
  refine GoX.cutF [0, 1, 2, 3, 4, 5, 6, 7, 8, 9, 10, 11, 12, 13, 21, 15] (fun S => sD1 ⟨⟨w0, b1, true, sa, b, t0, its, n0, [], its'⟩, u, acc, na⟩ (T1.of 21 15 (turn + 1) tu' ia (j + 1) m S.T) S.p S.nx S.tk) (by refine bk b1 ?_ ?_ <;> kernel_rfl) (by refine bk b1 ?_ ?_ <;> kernel_rfl) (by refine bk b1 ?_ ?_ <;> kernel_rfl) (by decide) (by refine bk b1 ?_ ?_ <;> kernel_rfl) ?_
  refine next _ _ _ _ ?_ ?_ ?_ ?_ ?_ ?_
  · rfl
  · rfl
  · rfl
  · refine bk b1 ?_ ?_ <;> kernel_rfl
  · refine bk b1 ?_ ?_ <;> kernel_rfl
  · refine bk b1 ?_ ?_ <;> kernel_rfl
theorem wkN_posi_2_bf (turn : Int) (tu ia j m lc : Nat) (x0 : Value) (tq : Nat) (rest : List Value) (ra nr : Nat) (a1 e1 f1 g1 : Nat) (a2 e2 f2 g2 : Nat) (no : Nat) (cv : Value) (k1 : Nat) (v1 : Value) (k2 : Nat) (v2 : Value) (sl : Array (Option Value)) (p : Pos) (nx tk : Nat) (kv : Int) (tv : Nat) (n tu' ta v nx' tk' : Nat) (hW : WholeOf (Dw.toLw ⟨⟨w0, b1, false, sa, b, t0, its, n0, [], its'⟩, u, acc, na⟩).w d os (.int kv tv) fun u => .int (.ofNat (n + 1)) u)
    (next : ∀ (X : T1) (p : Pos) (nx tk : Nat), X.ia = ia → X.turn = turn + 1 → X.m = m → X.rs.length = 3 → X.os.length = 3 → X.sl = sl → GoX (vb (VD ⟨⟨w0, b1, false, sa, b, t0, its, n0, [], its'⟩, u, acc, na⟩ ia) h₀ R₁ d os) (sD1 ⟨⟨w0, b1, false, sa, b, t0, its, n0, [], its'⟩, u, acc, na⟩ X p nx tk)) :
    GoX (vb (VD ⟨⟨w0, b1, false, sa, b, t0, its, n0, [], its'⟩, u, acc, na⟩ ia) h₀ R₁ d os) (hdB (VD ⟨⟨w0, b1, false, sa, b, t0, its, n0, [], its'⟩, u, acc, na⟩ ia) (sD1 ⟨⟨w0, b1, false, sa, b, t0, its, n0, [], its'⟩, u, acc, na⟩ ⟨turn, tu, ia, j, m + 1, lc, x0, tq, rest, ra, nr, [(a1, e1), (a2, e2)], no, [(f1, g1), (f2, g2)], cv, k1, v1, k2, v2, sl⟩ p nx tk) 14 402654723 ia j m (b + 11) (b + 7) turn tu' ta (.int kv tv) (.int (.ofNat (n + 1)) v) 16 nx' tk') := by
  refine sx (by show 1 ≤ 2; decide) 223 125751003837114594848016232441143932624126113572095543313773848277540163502256623612528502340932565341329739087422935089382150381327437712556324659956232381434205643024040641536360636696131347217509622871646723331670669582607363319987989086608193790273241454426932291454640657 (by refine bk b1 ?_ ?_ <;> kernel_rfl) (by refine bk b1 ?_ ?_ <;> kernel_rfl) ?_
  refine GoX.call (.call (.ref 177) ⟨[.int kv tv, .int 32 520], []⟩) none (by refine bk b1 ?_ ?_ <;> kernel_rfl) AX rfl (by refine bk b1 ?_ ?_ <;> kernel_rfl) ?_
  intro h D
  refine hW h _ _ D.known fun uu h2 t2 F => ?_
  refine GoX.fromB 29 (P := (Dw.toLw ⟨⟨w0, b1, false, sa, b, t0, its, n0, [], its'⟩, u, acc, na⟩).w.params) (by refine bk b1 ?_ ?_ <;> kernel_rfl) (D.step F rfl) fun q => ?_
  refine sx (by show 1 ≤ 2; decide) 1017 271807514640290929476649235698551961447031941451127516673763541456657163650146754521131938973255429945954091557552269851177322014504533066060821463370287979741880260399347806301978264655886126549699120101144571471693451581574165720069398745390856043753094875289949974080298955212053505538745771567428253383177816141718969393035155783190326694407826579423750773179255340898969037589176583177524421946437058647151188163255896534752605486302319762756556370930009221112301679110405450438937649093246838152730207369171719192171601203905710696201116551827485359891576837310617334385629547190527699229162835242634576366134296393508609646577217681990032727379923068391821324221387500724582263003589054245138599161954974799772052103607974388914118710496489525207795804017899161101696646246356646374695788130313541324650728870012800363325937398943779227346387325597818966360299289551734763317720117089980496826505065724131196348733547440063499401241847643433475736056500236942965161420547942682258804640793052510976871108142470367445427250002106317437158345775556841450214444899305333975028545179298134015244229040945693 (by refine bk b1 ?_ ?_ <;> kernel_rfl) (by refine bk b1 ?_ ?_ <;> kernel_rfl) ?_
  refine GoX.cutF [0, 1, 2, 3, 4, 5, 6, 7, 8, 9, 10, 11, 12, 13, 21, 15] (fun S => sD1 ⟨⟨w0, b1, false, sa, b, t0, its, n0, [], its'⟩, u, acc, na⟩ (T1.of 21 15 (turn + 1) tu' ia (j + 1) m S.T) S.p S.nx S.tk) (by refine bk b1 ?_ ?_ <;> kernel_rfl) (by refine bk b1 ?_ ?_ <;> kernel_rfl) (by refine bk b1 ?_ ?_ <;> kernel_rfl) (by decide) (by refine bk b1 ?_ ?_ <;> kernel_rfl) ?_
  refine next _ _ _ _ ?_ ?_ ?_ ?_ ?_ ?_
  · rfl
  · rfl
  · rfl
  · refine bk b1 ?_ ?_ <;> kernel_rfl
  · refine bk b1 ?_ ?_ <;> kernel_rfl
  · refine bk b1 ?_ ?_ <;> kernel_rfl
theorem wkN_posi_2_bt (turn : Int) (tu ia j m lc : Nat) (x0 : Value) (tq : Nat) (rest : List Value) (ra nr : Nat) (a1 e1 f1 g1 : Nat) (a2 e2 f2 g2 : Nat) (no : Nat) (cv : Value) (k1 : Nat) (v1 : Value) (k2 : Nat) (v2 : Value) (sl : Array (Option Value)) (p : Pos) (nx tk : Nat) (kv : Int) (tv : Nat) (n tu' ta v nx' tk' : Nat) (hW : WholeOf (Dw.toLw ⟨⟨w0, b1, true, sa, b, t0, its, n0, [], its'⟩, u, acc, na⟩).w d os (.int kv tv) fun u => .int (.ofNat (n + 1)) u)
    (next : ∀ (X : T1) (p : Pos) (nx tk : Nat), X.ia = ia → X.turn = turn + 1 → X.m = m → X.rs.length = 3 → X.os.length = 3 → X.sl = sl → GoX (vb (VD ⟨⟨w0, b1, true, sa, b, t0, its, n0, [], its'⟩, u, acc, na⟩ ia) h₀ R₁ d os) (sD1 ⟨⟨w0, b1, true, sa, b, t0, its, n0, [], its'⟩, u, acc, na⟩ X p nx tk)) :
    GoX (vb (VD ⟨⟨w0, b1, true, sa, b, t0, its, n0, [], its'⟩, u, acc, na⟩ ia) h₀ R₁ d os) (hdB (VD ⟨⟨w0, b1, true, sa, b, t0, its, n0, [], its'⟩, u, acc, na⟩ ia) (sD1 ⟨⟨w0, b1, true, sa, b, t0, its, n0, [], its'⟩, u, acc, na⟩ ⟨turn, tu, ia, j, m + 1, lc, x0, tq, rest, ra, nr, [(a1, e1), (a2, e2)], no, [(f1, g1), (f2, g2)], cv, k1, v1, k2, v2, sl⟩ p nx tk) 14 402654723 ia j m (b + 11) (b + 7) turn tu' ta (.int kv tv) (.int (.ofNat (n + 1)) v) 16 nx' tk') := by
  refine sx (by show 1 ≤ 2; decide) 223 125751003837114594848016232441143932624126113572095543313773848277540163502256623612528502340932565341329739087422935089382150381327437712556324659956232381434205643024040641536360636696131347217509622871646723331670669582607363319987989086608193790273241454426932291454640657 (by refine bk b1 ?_ ?_ <;> kernel_rfl) (by refine bk b1 ?_ ?_ <;> kernel_rfl) ?_
  refine GoX.call (.call (.ref 177) ⟨[.int kv tv, .int 32 520], []⟩) none (by refine bk b1 ?_ ?_ <;> kernel_rfl) AX rfl (by refine bk b1 ?_ ?_ <;> kernel_rfl) ?_
  intro h D
  refine hW h _ _ D.known fun uu h2 t2 F => ?_
  refine GoX.fromB 29 (P := (Dw.toLw ⟨⟨w0, b1, true, sa, b, t0, its, n0, [], its'⟩, u, acc, na⟩).w.params) (by refine bk b1 ?_ ?_ <;> kernel_rfl) (D.step F rfl) fun q => ?_
  refine sx (by show 1 ≤ 2; decide) 997 57557480052908003516579846331830533584737639458997550813623832287187288094214730394078689206312607818922511804048155532559275292289222507384183931470331066670440335477729468085156185286954199559789621627254023196511655937415669148953764310232567254054399729279443839467364843400230259274899485127402444711540611710863487584011426150578219195225625539121093674634254407745990978877035901481039758340359623769025587635269743647563538243263727289316213603416632039413044121609206441274293014955014373365793470159719113061950043265153468966706146980068416862902253972475907541025492357301630522919706097969321693454537450751614814596423982865836990647639186746702935097311916523134892937611046968402669107961105136235464103107765567298301708413782026737877497313936490231400574305241624301324482141698929592754812524055753021941045299368798066702930641222156192210405458761290688519212866219460370741126360362779589749780708425635688637040048921531805384638757706969101685447002697866157269420426704647328929225626046414307360661248927011107427622233797051707258206095158914557605922909469213 (by refine bk b1 ?_ ?_ <;> kernel_rfl) (by refine bk b1 ?_ ?_ <;> kernel_rfl) ?_
  refine GoX.cutF [0, 1, 2, 3, 4, 5, 6, 7, 8, 9, 10, 11, 12, 13, 21, 15] (fun S => sD1 ⟨⟨w0, b1, true, sa, b, t0, its, n0, [], its'⟩, u, acc, na⟩ (T1.of 21 15 (turn + 1) tu' ia (j + 1) m S.T) S.p S.nx S.tk) (by refine bk b1 ?_ ?_ <;> kernel_rfl) (by refine bk b1 ?_ ?_ <;> kernel_rfl) (by refine bk b1 ?_ ?_ <;> kernel_rfl) (by decide) (by refine bk b1 ?_ ?_ <;> kernel_rfl) ?_
  refine next _ _ _ _ ?_ ?_ ?_ ?_ ?_ ?_
  · rfl
  · rfl
  · rfl
  · refine bk b1 ?_ ?_ <;> kernel_rfl
  · refine bk b1 ?_ ?_ <;> kernel_rfl
  · refine bk b1 ?_ ?_ <;> kernel_rfl
theorem wkN_neg_0_bf (turn : Int) (tu ia j m lc : Nat) (x0 : Value) (tq : Nat) (rest : List Value) (ra nr : Nat) (no : Nat) (cv : Value) (k1 : Nat) (v1 : Value) (k2 : Nat) (v2 : Value) (sl : Array (Option Value)) (p : Pos) (nx tk : Nat) (xv : Str) (tv : Nat) (tu' ta v nx' tk' : Nat) (hW : WholeOf (Dw.toLw ⟨⟨w0, b1, false, sa, b, t0, its, n0, [], its'⟩, u, acc, na⟩).w d os (.str xv tv) fun u => .int (-3) u)
    (next : ∀ (X : T1) (p : Pos) (nx tk : Nat), X.ia = ia → X.turn = turn + 1 → X.m = m → X.rs.length = 1 → X.os.length = 1 → X.sl = sl → GoX (vb (VD ⟨⟨w0, b1, false, sa, b, t0, its, n0, [], its'⟩, u, acc, na⟩ ia) h₀ R₁ d os) (sD1 ⟨⟨w0, b1, false, sa, b, t0, its, n0, [], its'⟩, u, acc, na⟩ X p nx tk)) :
    GoX (vb (VD ⟨⟨w0, b1, false, sa, b, t0, its, n0, [], its'⟩, u, acc, na⟩ ia) h₀ R₁ d os) (hdB (VD ⟨⟨w0, b1, false, sa, b, t0, its, n0, [], its'⟩, u, acc, na⟩ ia) (sD1 ⟨⟨w0, b1, false, sa, b, t0, its, n0, [], its'⟩, u, acc, na⟩ ⟨turn, tu, ia, j, m + 1, lc, x0, tq, rest, ra, nr, [], no, [], cv, k1, v1, k2, v2, sl⟩ p nx tk) 14 402654723 ia j m (b + 11) (b + 7) turn tu' ta (.str xv tv) (.int (-3) v) 16 nx' tk') := by
  refine sx (by show 1 ≤ 2; decide) 223 125751003837114594848016232441143932624126113572095543313773848277540163502256623612528502340932565341329739087422935089382150381327437712556324659956232381434205643024040641536360636696131347217509622871646723331670669582607363319987989086608193790273241454426932291454640657 (by refine bk b1 ?_ ?_ <;> kernel_rfl) (by refine bk b1 ?_ ?_ <;> kernel_rfl) ?_
  refine GoX.call (.call (.ref 177) ⟨[.str xv tv, .int 32 520], []⟩) none (by refine bk b1 ?_ ?_ <;> kernel_rfl) AX rfl (by refine bk b1 ?_ ?_ <;> kernel_rfl) ?_
  intro h D
  refine hW h _ _ D.known fun uu h2 t2 F => ?_
  refine GoX.fromB 29 (P := (Dw.toLw ⟨⟨w0, b1, false, sa, b, t0, its, n0, [], its'⟩, u, acc, na⟩).w.params) (by refine bk b1 ?_ ?_ <;> kernel_rfl) (D.step F rfl) fun q => ?_
  refine sx (by show 1 ≤ 2; decide) 1017 271807514640290929476649235698551961447031941451127516673763541456657163650146754521131938973255429945954091557552269851177322014504533066060821463370287979741880260399347806301978264655886126549699120101144571471693451581574165720069398745390856043753094875289949974080298955212053505538745771567428253383177816141718969393035155783190326694407826579423750773179255340898969037589176583177524421946437058647151188163255896534752605486302319762756556370930009221112301679110405450438937649093246838152730207369171719192171601203905710696201116551827485359891576837310617334385629547190527699229162835242634576366134296393508609646577217681990032727379923068391821324221387500724582263003589054245138599161954974799772052103607974388914118710496489525207795804017899161101696646246356646374695788130313541324650728870012800363325937398943779227346387325597818966360299289551734763317720117089980496826505065724131196348733547440063499401241847643433475736056500236942965161420547942682258804640793052510976871108142470367445427250002106317437158345775556841450214444899305333975028545179298134015244229040945693 (by refine bk b1 ?_ ?_ <;> kernel_rfl) (by refine bk b1 ?_ ?_ <;> kernel_rfl) ?_
  refine GoX.cutF [0, 1, 2, 3, 4, 5, 6, 7, 8, 9, 10, 11, 12, 13, 21, 15] (fun S => sD1 ⟨⟨w0, b1, false, sa, b, t0, its, n0, [], its'⟩, u, acc, na⟩ (T1.of 21 15 (turn + 1) tu' ia (j + 1) m S.T) S.p S.nx S.tk) (by refine bk b1 ?_ ?_ <;> kernel_rfl) (by refine bk b1 ?_ ?_ <;> kernel_rfl) (by refine bk b1 ?_ ?_ <;> kernel_rfl) (by decide) (by refine bk b1 ?_ ?_ <;> kernel_rfl) ?_
  refine next _ _ _ _ ?_ ?_ ?_ ?_ ?_ ?_
  · rfl
  · rfl
  · rfl
  · refine bk b1 ?_ ?_ <;> kernel_rfl
  · refine bk b1 ?_ ?_ <;> kernel_rfl
  · refine bk b1 ?_ ?_ <;> kernel_rfl
theorem wkN_neg_0_bt (turn : Int) (tu ia j m lc : Nat) (x0 : Value) (tq : Nat) (rest : List Value) (ra nr : Nat) (no : Nat) (cv : Value) (k1 : Nat) (v1 : Value) (k2 : Nat) (v2 : Value) (sl : Array (Option Value)) (p : Pos) (nx tk : Nat) (xv : Str) (tv : Nat) (tu' ta v nx' tk' : Nat) (hW : WholeOf (Dw.toLw ⟨⟨w0, b1, true, sa, b, t0, its, n0, [], its'⟩, u, acc, na⟩).w d os (.str xv tv) fun u => .int (-3) u)
    (next : ∀ (X : T1) (p : Pos) (nx tk : Nat), X.ia = ia → X.turn = turn + 1 → X.m = m → X.rs.length = 1 → X.os.length = 1 → X.sl = sl → GoX (vb (VD ⟨⟨w0, b1, true, sa, b, t0, its, n0, [], its'⟩, u, acc, na⟩ ia) h₀ R₁ d os) (sD1 ⟨⟨w0, b1, true, sa, b, t0, its, n0, [], its'⟩, u, acc, na⟩ X p nx tk)) :
    GoX (vb (VD ⟨⟨w0, b1, true, sa, b, t0, its, n0, [], its'⟩, u, acc, na⟩ ia) h₀ R₁ d os) (hdB (VD ⟨⟨w0, b1, true, sa, b, t0, its, n0, [], its'⟩, u, acc, na⟩ ia) (sD1 ⟨⟨w0, b1, true, sa, b, t0, its, n0, [], its'⟩, u, acc, na⟩ ⟨turn, tu, ia, j, m + 1, lc, x0, tq, rest, ra, nr, [], no, [], cv, k1, v1, k2, v2, sl⟩ p nx tk) 14 402654723 ia j m (b + 11) (b + 7) turn tu' ta (.str xv tv) (.int (-3) v) 16 nx' tk') := by
  refine sx (by show 1 ≤ 2; decide) 223 125751003837114594848016232441143932624126113572095543313773848277540163502256623612528502340932565341329739087422935089382150381327437712556324659956232381434205643024040641536360636696131347217509622871646723331670669582607363319987989086608193790273241454426932291454640657 (by refine bk b1 ?_ ?_ <;> kernel_rfl) (by refine bk b1 ?_ ?_ <;> kernel_rfl) ?_
  refine GoX.call (.call (.ref 177) ⟨[.str xv tv, .int 32 520], []⟩) none (by refine bk b1 ?_ ?_ <;> kernel_rfl) AX rfl (by refine bk b1 ?_ ?_ <;> kernel_rfl) ?_
  intro h D
  refine hW h _ _ D.known fun uu h2 t2 F => ?_
  refine GoX.fromB 29 (P := (Dw.toLw ⟨⟨w0, b1, true, sa, b, t0, its, n0, [], its'⟩, u, acc, na⟩).w.params) (by refine bk b1 ?_ ?_ <;> kernel_rfl) (D.step F rfl) fun q => ?_
  refine sx (by show 1 ≤ 2; decide) 997 57557480052908003516579846331830533584737639458997550813623832287187288094214730394078689206312607818922511804048155532559275292289222507384183931470331066670440335477729468085156185286954199559789621627254023196511655937415669148953764310232567254054399729279443839467364843400230259274899485127402444711540611710863487584011426150578219195225625539121093674634254407745990978877035901481039758340359623769025587635269743647563538243263727289316213603416632039413044121609206441274293014955014373365793470159719113061950043265153468966706146980068416862902253972475907541025492357301630522919706097969321693454537450751614814596423982865836990647639186746702935097311916523134892937611046968402669107961105136235464103107765567298301708413782026737877497313936490231400574305241624301324482141698929592754812524055753021941045299368798066702930641222156192210405458761290688519212866219460370741126360362779589749780708425635688637040048921531805384638757706969101685447002697866157269420426704647328929225626046414307360661248927011107427622233797051707258206095158914557605922909469213 (by refine bk b1 ?_ ?_ <;> kernel_rfl) (by refine bk b1 ?_ ?_ <;> kernel_rfl) ?_
  refine GoX.cutF [0, 1, 2, 3, 4, 5, 6, 7, 8, 9, 10, 11, 12, 13, 21, 15] (fun S => sD1 ⟨⟨w0, b1, true, sa, b, t0, its, n0, [], its'⟩, u, acc, na⟩ (T1.of 21 15 (turn + 1) tu' ia (j + 1) m S.T) S.p S.nx S.tk) (by refine bk b1 ?_ ?_ <;> kernel_rfl) (by refine bk b1 ?_ ?_ <;> kernel_rfl) (by refine bk b1 ?_ ?_ <;> kernel_rfl) (by decide) (by refine bk b1 ?_ ?_ <;> kernel_rfl) ?_
  refine next _ _ _ _ ?_ ?_ ?_ ?_ ?_ ?_
  · rfl
  · rfl
  · rfl
  · refine bk b1 ?_ ?_ <;> kernel_rfl
  · refine bk b1 ?_ ?_ <;> kernel_rfl
  · refine bk b1 ?_ ?_ <;> kernel_rfl
theorem wkN_neg_1_bf (turn : Int) (tu ia j m lc : Nat) (x0 : Value) (tq : Nat) (rest : List Value) (ra nr : Nat) (a1 e1 f1 g1 : Nat) (no : Nat) (cv : Value) (k1 : Nat) (v1 : Value) (k2 : Nat) (v2 : Value) (sl : Array (Option Value)) (p : Pos) (nx tk : Nat) (xv : Str) (tv : Nat) (tu' ta v nx' tk' : Nat) (hW : WholeOf (Dw.toLw ⟨⟨w0, b1, false, sa, b, t0, its, n0, [], its'⟩, u, acc, na⟩).w d os (.str xv tv) fun u => .int (-3) u)
    (next : ∀ (X : T1) (p : Pos) (nx tk : Nat), X.ia = ia → X.turn = turn + 1 → X.m = m → X.rs.length = 2 → X.os.length = 2 → X.sl = sl → GoX (vb (VD ⟨⟨w0, b1, false, sa, b, t0, its, n0, [], its'⟩, u, acc, na⟩ ia) h₀ R₁ d os) (sD1 ⟨⟨w0, b1, false, sa, b, t0, its, n0, [], its'⟩, u, acc, na⟩ X p nx tk)) :
    GoX (vb (VD ⟨⟨w0, b1, false, sa, b, t0, its, n0, [], its'⟩, u, acc, na⟩ ia) h₀ R₁ d os) (hdB (VD ⟨⟨w0, b1, false, sa, b, t0, its, n0, [], its'⟩, u, acc, na⟩ ia) (sD1 ⟨⟨w0, b1, false, sa, b, t0, its, n0, [], its'⟩, u, acc, na⟩ ⟨turn, tu, ia, j, m + 1, lc, x0, tq, rest, ra, nr, [(a1, e1)], no, [(f1, g1)], cv, k1, v1, k2, v2, sl⟩ p nx tk) 14 402654723 ia j m (b + 11) (b + 7) turn tu' ta (.str xv tv) (.int (-3) v) 16 nx' tk') := by
  refine sx (by show 1 ≤ 2; decide) 223 125751003837114594848016232441143932624126113572095543313773848277540163502256623612528502340932565341329739087422935089382150381327437712556324659956232381434205643024040641536360636696131347217509622871646723331670669582607363319987989086608193790273241454426932291454640657 (by refine bk b1 ?_ ?_ <;> kernel_rfl) (by refine bk b1 ?_ ?_ <;> kernel_rfl) ?_
  refine GoX.call (.call (.ref 177) ⟨[.str xv tv, .int 32 520], []⟩) none (by refine bk b1 ?_ ?_ <;> kernel_rfl) AX rfl (by refine bk b1 ?_ ?_ <;> kernel_rfl) ?_
  intro h D
  refine hW h _ _ D.known fun uu h2 t2 F => ?_
  refine GoX.fromB 29 (P := (Dw.toLw ⟨⟨w0, b1, false, sa, b, t0, its, n0, [], its'⟩, u, acc, na⟩).w.params) (by refine bk b1 ?_ ?_ <;> kernel_rfl) (D.step F rfl) fun q => ?_
  refine sx (by show 1 ≤ 2; decide) 1017 271807514640290929476649235698551961447031941451127516673763541456657163650146754521131938973255429945954091557552269851177322014504533066060821463370287979741880260399347806301978264655886126549699120101144571471693451581574165720069398745390856043753094875289949974080298955212053505538745771567428253383177816141718969393035155783190326694407826579423750773179255340898969037589176583177524421946437058647151188163255896534752605486302319762756556370930009221112301679110405450438937649093246838152730207369171719192171601203905710696201116551827485359891576837310617334385629547190527699229162835242634576366134296393508609646577217681990032727379923068391821324221387500724582263003589054245138599161954974799772052103607974388914118710496489525207795804017899161101696646246356646374695788130313541324650728870012800363325937398943779227346387325597818966360299289551734763317720117089980496826505065724131196348733547440063499401241847643433475736056500236942965161420547942682258804640793052510976871108142470367445427250002106317437158345775556841450214444899305333975028545179298134015244229040945693 (by refine bk b1 ?_ ?_ <;> kernel_rfl) (by refine bk b1 ?_ ?_ <;> kernel_rfl) ?_
  refine GoX.cutF [0, 1, 2, 3, 4, 5, 6, 7, 8, 9, 10, 11, 12, 13, 21, 15] (fun S => sD1 ⟨⟨w0, b1, false, sa, b, t0, its, n0, [], its'⟩, u, acc, na⟩ (T1.of 21 15 (turn + 1) tu' ia (j + 1) m S.T) S.p S.nx S.tk) (by refine bk b1 ?_ ?_ <;> kernel_rfl) (by refine bk b1 ?_ ?_ <;> kernel_rfl) (by refine bk b1 ?_ ?_ <;> kernel_rfl) (by decide) (by refine bk b1 ?_ ?_ <;> kernel_rfl) ?_
  refine next _ _ _ _ ?_ ?_ ?_ ?_ ?_ ?_
  · rfl
  · rfl
  · rfl
  · refine bk b1 ?_ ?_ <;> kernel_rfl
  · refine bk b1 ?_ ?_ <;> kernel_rfl
  · refine bk b1 ?_ ?_ <;> kernel_rfl
theorem wkN_neg_1_bt (turn : Int) (tu ia j m lc : Nat) (x0 : Value) (tq : Nat) (rest : List Value) (ra nr : Nat) (a1 e1 f1 g1 : Nat) (no : Nat) (cv : Value) (k1 : Nat) (v1 : Value) (k2 : Nat) (v2 : Value) (sl : Array (Option Value)) (p : Pos) (nx tk : Nat) (xv : Str) (tv : Nat) (tu' ta v nx' tk' : Nat) (hW : WholeOf (Dw.toLw ⟨⟨w0, b1, true, sa, b, t0, its, n0, [], its'⟩, u, acc, na⟩).w d os (.str xv tv) fun u => .int (-3) u)
    (next : ∀ (X : T1) (p : Pos) (nx tk : Nat), X.ia = ia → X.turn = turn + 1 → X.m = m → X.rs.length = 2 → X.os.length = 2 → X.sl = sl → GoX (vb (VD ⟨⟨w0, b1, true, sa, b, t0, its, n0, [], its'⟩, u, acc, na⟩ ia) h₀ R₁ d os) (sD1 ⟨⟨w0, b1, true, sa, b, t0, its, n0, [], its'⟩, u, acc, na⟩ X p nx tk)) :
    GoX (vb (VD ⟨⟨w0, b1, true, sa, b, t0, its, n0, [], its'⟩, u, acc, na⟩ ia) h₀ R₁ d os) (hdB (VD ⟨⟨w0, b1, true, sa, b, t0, its, n0, [], its'⟩, u, acc, na⟩ ia) (sD1 ⟨⟨w0, b1, true, sa, b, t0, its, n0, [], its'⟩, u, acc, na⟩ ⟨turn, tu, ia, j, m + 1, lc, x0, tq, rest, ra, nr, [(a1, e1)], no, [(f1, g1)], cv, k1, v1, k2, v2, sl⟩ p nx tk) 14 402654723 ia j m (b + 11) (b + 7) turn tu' ta (.str xv tv) (.int (-3) v) 16 nx' tk') := by
  refine sx (by show 1 ≤ 2; decide) 223 125751003837114594848016232441143932624126113572095543313773848277540163502256623612528502340932565341329739087422935089382150381327437712556324659956232381434205643024040641536360636696131347217509622871646723331670669582607363319987989086608193790273241454426932291454640657 (by refine bk b1 ?_ ?_ <;> kernel_rfl) (by refine bk b1 ?_ ?_ <;> kernel_rfl) ?_
  refine GoX.call (.call (.ref 177) ⟨[.str xv tv, .int 32 520], []⟩) none (by refine bk b1 ?_ ?_ <;> kernel_rfl) AX rfl (by refine bk b1 ?_ ?_ <;> kernel_rfl) ?_
  intro h D
  refine hW h _ _ D.known fun uu h2 t2 F => ?_
  refine GoX.fromB 29 (P := (Dw.toLw ⟨⟨w0, b1, true, sa, b, t0, its, n0, [], its'⟩, u, acc, na⟩).w.params) (by refine bk b1 ?_ ?_ <;> kernel_rfl) (D.step F rfl) fun q => ?_
  refine sx (by show 1 ≤ 2; decide) 997 57557480052908003516579846331830533584737639458997550813623832287187288094214730394078689206312607818922511804048155532559275292289222507384183931470331066670440335477729468085156185286954199559789621627254023196511655937415669148953764310232567254054399729279443839467364843400230259274899485127402444711540611710863487584011426150578219195225625539121093674634254407745990978877035901481039758340359623769025587635269743647563538243263727289316213603416632039413044121609206441274293014955014373365793470159719113061950043265153468966706146980068416862902253972475907541025492357301630522919706097969321693454537450751614814596423982865836990647639186746702935097311916523134892937611046968402669107961105136235464103107765567298301708413782026737877497313936490231400574305241624301324482141698929592754812524055753021941045299368798066702930641222156192210405458761290688519212866219460370741126360362779589749780708425635688637040048921531805384638757706969101685447002697866157269420426704647328929225626046414307360661248927011107427622233797051707258206095158914557605922909469213 (by refine bk b1 ?_ ?_ <;> kernel_rfl) (by refine bk b1 ?_ ?_ <;> kernel_rfl) ?_
  refine GoX.cutF [0, 1, 2, 3, 4, 5, 6, 7, 8, 9, 10, 11, 12, 13, 21, 15] (fun S => sD1 ⟨⟨w0, b1, true, sa, b, t0, its, n0, [], its'⟩, u, acc, na⟩ (T1.of 21 15 (turn + 1) tu' ia (j + 1) m S.T) S.p S.nx S.tk) (by refine bk b1 ?_ ?_ <;> kernel_rfl) (by refine bk b1 ?_ ?_ <;> kernel_rfl) (by refine bk b1 ?_ ?_ <;> kernel_rfl) (by decide) (by refine bk b1 ?_ ?_ <;> kernel_rfl) ?_
  refine next _ _ _ _ ?_ ?_ ?_ ?_ ?_ ?_
  · rfl
  · rfl
  · rfl
  · refine bk b1 ?_ ?_ <;> kernel_rfl
  · refine bk b1 ?_ ?_ <;> kernel_rfl
  · refine bk b1 ?_ ?_ <;> kernel_rfl
theorem wkN_neg_2_bf (turn : Int) (tu ia j m lc : Nat) (x0 : Value) (tq : Nat) (rest : List Value) (ra nr : Nat) (a1 e1 f1 g1 : Nat) (a2 e2 f2 g2 : Nat) (no : Nat) (cv : Value) (k1 : Nat) (v1 : Value) (k2 : Nat) (v2 : Value) (sl : Array (Option Value)) (p : Pos) (nx tk : Nat) (xv : Str) (tv : Nat) (tu' ta v nx' tk' : Nat) (hW : WholeOf (Dw.toLw ⟨⟨w0, b1, false, sa, b, t0, its, n0, [], its'⟩, u, acc, na⟩).w d os (.str xv tv) fun u => .int (-3) u)
    (next : ∀ (X : T1) (p : Pos) (nx tk : Nat), X.ia = ia → X.turn = turn + 1 → X.m = m → X.rs.length = 3 → X.os.length = 3 → X.sl = sl → GoX (vb (VD ⟨⟨w0, b1, false, sa, b, t0, its, n0, [], its'⟩, u, acc, na⟩ ia) h₀ R₁ d os) (sD1 ⟨⟨w0, b1, false, sa, b, t0, its, n0, [], its'⟩, u, acc, na⟩ X p nx tk)) :
    GoX (vb (VD ⟨⟨w0, b1, false, sa, b, t0, its, n0, [], its'⟩, u, acc, na⟩ ia) h₀ R₁ d os) (hdB (VD ⟨⟨w0, b1, false, sa, b, t0, its, n0, [], its'⟩, u, acc, na⟩ ia) (sD1 ⟨⟨w0, b1, false, sa, b, t0, its, n0, [], its'⟩, u, acc, na⟩ ⟨turn, tu, ia, j, m + 1, lc, x0, tq, rest, ra, nr, [(a1, e1), (a2, e2)], no, [(f1, g1), (f2, g2)], cv, k1, v1, k2, v2, sl⟩ p nx tk) 14 402654723 ia j m (b + 11) (b + 7) turn tu' ta (.str xv tv) (.int (-3) v) 16 nx' tk') := by
  refine sx (by show 1 ≤ 2; decide) 223 125751003837114594848016232441143932624126113572095543313773848277540163502256623612528502340932565341329739087422935089382150381327437712556324659956232381434205643024040641536360636696131347217509622871646723331670669582607363319987989086608193790273241454426932291454640657 (by refine bk b1 ?_ ?_ <;> kernel_rfl) (by refine bk b1 ?_ ?_ <;> kernel_rfl) ?_
  refine GoX.call (.call (.ref 177) ⟨[.str xv tv, .int 32 520], []⟩) none (by refine bk b1 ?_ ?_ <;> kernel_rfl) AX rfl (by refine bk b1 ?_ ?_ <;> kernel_rfl) ?_
  intro h D
  refine hW h _ _ D.known fun uu h2 t2 F => ?_
  refine GoX.fromB 29 (P := (Dw.toLw ⟨⟨w0, b1, false, sa, b, t0, its, n0, [], its'⟩, u, acc, na⟩).w.params) (by refine bk b1 ?_ ?_ <;> kernel_rfl) (D.step F rfl) fun q => ?_
  refine sx (by show 1 ≤ 2; decide) 1017 271807514640290929476649235698551961447031941451127516673763541456657163650146754521131938973255429945954091557552269851177322014504533066060821463370287979741880260399347806301978264655886126549699120101144571471693451581574165720069398745390856043753094875289949974080298955212053505538745771567428253383177816141718969393035155783190326694407826579423750773179255340898969037589176583177524421946437058647151188163255896534752605486302319762756556370930009221112301679110405450438937649093246838152730207369171719192171601203905710696201116551827485359891576837310617334385629547190527699229162835242634576366134296393508609646577217681990032727379923068391821324221387500724582263003589054245138599161954974799772052103607974388914118710496489525207795804017899161101696646246356646374695788130313541324650728870012800363325937398943779227346387325597818966360299289551734763317720117089980496826505065724131196348733547440063499401241847643433475736056500236942965161420547942682258804640793052510976871108142470367445427250002106317437158345775556841450214444899305333975028545179298134015244229040945693 (by refine bk b1 ?_ ?_ <;> kernel_rfl) (by refine bk b1 ?_ ?_ <;> kernel_rfl) ?_
  refine GoX.cutF [0, 1, 2, 3, 4, 5, 6, 7, 8, 9, 10, 11, 12, 13, 21, 15] (fun S => sD1 ⟨⟨w0, b1, false, sa, b, t0, its, n0, [], its'⟩, u, acc, na⟩ (T1.of 21 15 (turn + 1) tu' ia (j + 1) m S.T) S.p S.nx S.tk) (by refine bk b1 ?_ ?_ <;> kernel_rfl) (by refine bk b1 ?_ ?_ <;> kernel_rfl) (by refine bk b1 ?_ ?_ <;> kernel_rfl) (by decide) (by refine bk b1 ?_ ?_ <;> kernel_rfl) ?_
  refine next _ _ _ _ ?_ ?_ ?_ ?_ ?_ ?_
  · rfl
  · rfl
  · rfl
  · refine bk b1 ?_ ?_ <;> kernel_rfl
  · refine bk b1 ?_ ?_ <;> kernel_rfl
  · refine bk b1 ?_ ?_ <;> kernel_rfl
theorem wkN_neg_2_bt (turn : Int) (tu ia j m lc : Nat) (x0 : Value) (tq : Nat) (rest : List Value) (ra nr : Nat) (a1 e1 f1 g1 : Nat) (a2 e2 f2 g2 : Nat) (no : Nat) (cv : Value) (k1 : Nat) (v1 : Value) (k2 : Nat) (v2 : Value) (sl : Array (Option Value)) (p : Pos) (nx tk : Nat) (xv : Str) (tv : Nat) (tu' ta v nx' tk' : Nat) (hW : WholeOf (Dw.toLw ⟨⟨w0, b1, true, sa, b, t0, its, n0, [], its'⟩, u, acc, na⟩).w d os (.str xv tv) fun u => .int (-3) u)
    (next : ∀ (X : T1) (p : Pos) (nx tk : Nat), X.ia = ia → X.turn = turn + 1 → X.m = m → X.rs.length = 3 → X.os.length = 3 → X.sl = sl → GoX (vb (VD ⟨⟨w0, b1, true, sa, b, t0, its, n0, [], its'⟩, u, acc, na⟩ ia) h₀ R₁ d os) (sD1 ⟨⟨w0, b1, true, sa, b, t0, its, n0, [], its'⟩, u, acc, na⟩ X p nx tk)) :
    GoX (vb (VD ⟨⟨w0, b1, true, sa, b, t0, its, n0, [], its'⟩, u, acc, na⟩ ia) h₀ R₁ d os) (hdB (VD ⟨⟨w0, b1, true, sa, b, t0, its, n0, [], its'⟩, u, acc, na⟩ ia) (sD1 ⟨⟨w0, b1, true, sa, b, t0, its, n0, [], its'⟩, u, acc, na⟩ ⟨turn, tu, ia, j, m + 1, lc, x0, tq, rest, ra, nr, [(a1, e1), (a2, e2)], no, [(f1, g1), (f2, g2)], cv, k1, v1, k2, v2, sl⟩ p nx tk) 14 402654723 ia j m (b + 11) (b + 7) turn tu' ta (.str xv tv) (.int (-3) v) 16 nx' tk') := by
  refine sx (by show 1 ≤ 2; decide) 223 125751003837114594848016232441143932624126113572095543313773848277540163502256623612528502340932565341329739087422935089382150381327437712556324659956232381434205643024040641536360636696131347217509622871646723331670669582607363319987989086608193790273241454426932291454640657 (by refine bk b1 ?_ ?_ <;> kernel_rfl) (by refine bk b1 ?_ ?_ <;> kernel_rfl) ?_
  refine GoX.call (.call (.ref 177) ⟨[.str xv tv, .int 32 520], []⟩) none (by refine bk b1 ?_ ?_ <;> kernel_rfl) AX rfl (by refine bk b1 ?_ ?_ <;> kernel_rfl) ?_
  intro h D
  refine hW h _ _ D.known fun uu h2 t2 F => ?_
  refine GoX.fromB 29 (P := (Dw.toLw ⟨⟨w0, b1, true, sa, b, t0, its, n0, [], its'⟩, u, acc, na⟩).w.params) (by refine bk b1 ?_ ?_ <;> kernel_rfl) (D.step F rfl) fun q => ?_
  refine sx (by show 1 ≤ 2; decide) 997 57557480052908003516579846331830533584737639458997550813623832287187288094214730394078689206312607818922511804048155532559275292289222507384183931470331066670440335477729468085156185286954199559789621627254023196511655937415669148953764310232567254054399729279443839467364843400230259274899485127402444711540611710863487584011426150578219195225625539121093674634254407745990978877035901481039758340359623769025587635269743647563538243263727289316213603416632039413044121609206441274293014955014373365793470159719113061950043265153468966706146980068416862902253972475907541025492357301630522919706097969321693454537450751614814596423982865836990647639186746702935097311916523134892937611046968402669107961105136235464103107765567298301708413782026737877497313936490231400574305241624301324482141698929592754812524055753021941045299368798066702930641222156192210405458761290688519212866219460370741126360362779589749780708425635688637040048921531805384638757706969101685447002697866157269420426704647328929225626046414307360661248927011107427622233797051707258206095158914557605922909469213 (by refine bk b1 ?_ ?_ <;> kernel_rfl) (by refine bk b1 ?_ ?_ <;> kernel_rfl) ?_
  refine GoX.cutF [0, 1, 2, 3, 4, 5, 6, 7, 8, 9, 10, 11, 12, 13, 21, 15] (fun S => sD1 ⟨⟨w0, b1, true, sa, b, t0, its, n0, [], its'⟩, u, acc, na⟩ (T1.of 21 15 (turn + 1) tu' ia (j + 1) m S.T) S.p S.nx S.tk) (by refine bk b1 ?_ ?_ <;> kernel_rfl) (by refine bk b1 ?_ ?_ <;> kernel_rfl) (by refine bk b1 ?_ ?_ <;> kernel_rfl) (by decide) (by refine bk b1 ?_ ?_ <;> kernel_rfl) ?_
  refine next _ _ _ _ ?_ ?_ ?_ ?_ ?_ ?_
  · rfl
  · rfl
  · rfl
  · refine bk b1 ?_ ?_ <;> kernel_rfl
  · refine bk b1 ?_ ?_ <;> kernel_rfl
  · refine bk b1 ?_ ?_ <;> kernel_rfl
end
end Mine
end
section
namespace Mine
/-- behind the first loop -/
noncomputable def TB (D : Dw) (X : T1) : LT :=
  LT.of 0 [(349, tabO [.int 204 0, .int 22 0, .ref X.lc]), (D.sa, lst D.its D.n0), (D.b, fr5 D.w.params D.sa D.t0 D.b D.u (.ref X.ra) X.k1 X.v1 X.k2 X.v2 X.sl), (D.b + 1, cellO none), (D.b + 2, cellO (some X.cv)), (D.b + 3, cellO (some (.ref (D.b + 13)))),
    (D.b + 7, lst D.acc D.na), (D.b + 11, lst [.ref (D.b + 7), .int X.turn X.tu] 0), (D.b + 12, wD D.w.params D.b D.u (.int 20000 (D.u + 14)) (.int 0 (D.u + 56))), (D.b + 13, instW D.b),
    (D.b + 27, lst [] 0), (D.b + 34, stD D.w.params D.u)] .nil
section
variable (h₀ : Heap) (R₁ : Result → Shared → Prop) (d : Drawn) (os : OsState) (w0 : World) (b1 b2 : Bool) (sa b t0 : Nat) (its : List Value) (n0 : Nat) (its' : List Value) (u : Nat) (acc : List Value) (na : Nat)
theorem endU (turn : Int) (tu ia j lc : Nat) (x0 : Value) (tq : Nat) (rest : List Value) (ra nr : Nat) (rs : List (Nat × Nat)) (no : Nat) (os' : List (Nat × Nat)) (cv : Value) (k1 : Nat) (v1 : Value) (k2 : Nat) (v2 : Value) (sl : Array (Option Value)) (p : Pos) (nx tk : Nat)
    (next : ∀ nx' tk' h', Rep (wsL (Dw.toLw ⟨⟨w0, b1, b2, sa, b, t0, its, n0, [], its'⟩, u, acc, na⟩).w) h₀ [349] (TB ⟨⟨w0, b1, b2, sa, b, t0, its, n0, [], its'⟩, u, acc, na⟩ ⟨turn, tu, ia, j, 0, lc, x0, tq, rest, ra, nr, rs, no, os', cv, k1, v1, k2, v2, sl⟩) nx' h' → R₁ (.ok .next) ⟨h', #[], d, tk', os⟩) :
    GoX (vb (VD ⟨⟨w0, b1, b2, sa, b, t0, its, n0, [], its'⟩, u, acc, na⟩ ia) h₀ R₁ d os) (sD1 ⟨⟨w0, b1, b2, sa, b, t0, its, n0, [], its'⟩, u, acc, na⟩ ⟨turn, tu, ia, j, 0, lc, x0, tq, rest, ra, nr, rs, no, os', cv, k1, v1, k2, v2, sl⟩ p nx tk) := by
  refine sx (by show 1 ≤ 2; decide) 15 634282652998670 (by refine bk b1 ?_ ?_ <;> kernel_rfl) (by refine bk b1 ?_ ?_ <;> kernel_rfl) ?_
  refine GoX.cutF [0, 1, 2, 3, 4, 5, 6, 7, 8, 9, 12, 11] (fun S => ⟨S.c, S.κ, S.t, S.p, TB ⟨⟨w0, b1, b2, sa, b, t0, its, n0, [], its'⟩, u, acc, na⟩ ⟨turn, tu, ia, j, 0, lc, x0, tq, rest, ra, nr, rs, no, os', cv, k1, v1, k2, v2, sl⟩, 12, S.nx, S.tk⟩) (by refine bk b1 ?_ ?_ <;> kernel_rfl) (by refine bk b1 ?_ ?_ <;> kernel_rfl) (by refine bk b1 ?_ ?_ <;> kernel_rfl) (by decide) (by refine bk b1 ?_ ?_ <;> kernel_rfl) ?_
  exact GoX.done .next (by refine bk b1 ?_ ?_ <;> kernel_rfl) (by refine bk b1 ?_ ?_ <;> kernel_rfl) fun h' D => next _ _ h' D
end
end Mine
end
section
namespace Mine
section
variable (h₀ : Heap) (R₁ : Result → Shared → Prop) (d : Drawn) (os : OsState) (w0 : World) (b1 b2 : Bool) (sa b t0 : Nat) (its : List Value) (n0 : Nat) (its' : List Value) (u : Nat) (acc : List Value) (na : Nat)
theorem loop (hc : Cells acc) (hl : acc.length ≤ 24) (ia : Nat)
    (next : ∀ (X : T1) nx' tk' h', X.ia = ia → 0 ≤ X.turn → X.turn ≤ 100 → (X.sl = ⟨[]⟩ ∨ X.sl = slS b) → Rep (wsL (Dw.toLw ⟨⟨w0, b1, b2, sa, b, t0, its, n0, [], its'⟩, u, acc, na⟩).w) h₀ [349] (TB ⟨⟨w0, b1, b2, sa, b, t0, its, n0, [], its'⟩, u, acc, na⟩ X) nx' h' → R₁ (.ok .next) ⟨h', #[], d, tk', os⟩) :
    ∀ (m : Nat) (X : T1) (p : Pos) (nx tk : Nat), X.ia = ia → X.m = m → X.rs.length = X.os.length → X.rs.length + m ≤ 3 → (X.sl = ⟨[]⟩ ∨ (X.sl = slS b ∧ X.rs.length + m ≤ 2)) → 0 ≤ X.turn → X.turn + m ≤ 100 →
    GoX (vb (VD ⟨⟨w0, b1, b2, sa, b, t0, its, n0, [], its'⟩, u, acc, na⟩ ia) h₀ R₁ d os) (sD1 ⟨⟨w0, b1, b2, sa, b, t0, its, n0, [], its'⟩, u, acc, na⟩ X p nx tk)
  | 0, X, p, nx, tk, e1, e2, hk, hr, hs, h0, h1 => by
    obtain ⟨turn, tu, ia', j, m', lc, x0, tq, rest, ra, nr, rs, no, os', cv, k1, v1, k2, v2, sl⟩ := X
    dsimp only at e1 e2 hk hr hs h0 h1
    subst e1 e2
    exact endU h₀ R₁ d os w0 b1 b2 sa b t0 its n0 its' u acc na turn tu ia' j lc x0 tq rest ra nr rs no os' cv k1 v1 k2 v2 sl p nx tk fun nx' tk' h' Dr => next _ nx' tk' h' rfl h0 (by simpa using h1) (hs.imp id And.left) Dr
  | m + 1, X, p, nx, tk, e1, e2, hk, hr, hs, h0, h1 => by
    have IH := loop hc hl ia next m
    obtain ⟨turn, tu, ia', j, m', lc, x0, tq, rest, ra, nr, rs, no, os', cv, k1, v1, k2, v2, sl⟩ := X
    dsimp only at e1 e2 hk hr hs h0 h1
    subst e1 e2
    rcases rs with _ | ⟨⟨a1, c1⟩, _ | ⟨⟨a2, c2⟩, _ | ⟨y, rs⟩⟩⟩ <;> rcases os' with _ | ⟨⟨f1, g1⟩, _ | ⟨⟨f2, g2⟩, _ | ⟨z, os'⟩⟩⟩ <;> simp only [List.length_cons, List.length_nil] at hk hr hs <;> first | (exfalso; omega) | skip
    · refine headU h₀ R₁ d os w0 b1 b2 sa b t0 its n0 its' u acc na ⟨turn, tu, ia', j, m, lc, x0, tq, rest, ra, nr, [], no, [], cv, k1, v1, k2, v2, sl⟩ m p nx tk hc (by omega) h0 (by show turn ≤ 1000; omega) (fun r tt v pa ta tu' nx' tk' hr14 h12 => ?_) (fun v pa da ta tu' nx' tk' => ?_)
      · rcases (by omega : r = 0 ∨ r = 1 ∨ r = 2 ∨ r = 3 ∨ r = 4 ∨ r = 5 ∨ r = 6 ∨ r = 7 ∨ r = 8 ∨ r = 9 ∨ r = 10 ∨ r = 11 ∨ r = 13) with rfl | rfl | rfl | rfl | rfl | rfl | rfl | rfl | rfl | rfl | rfl | rfl | rfl
        · exact wkN_zeroi_0 h₀ R₁ d os w0 b1 b2 sa b t0 its n0 its' u acc na turn tu ia' j m lc x0 tq rest ra nr no cv k1 v1 k2 v2 _ p nx tk 0 tt tu' ta v nx' tk' (fun h t R K post => whole_spec _ AX h 0 tt pa 0 520 t d os R rfl (by decide) K (by decide) (fun e => absurd e (by decide)) fun uu h' t' F => post uu h' t' F) (fun X p nx tk q1 q2 q3 q4 q5 q6 => IH X p nx tk q1 q3 (q4.trans q5.symm) (by rw [q4]; omega) (hs.elim (fun e => .inl (q6.trans e)) (fun e => .inr ⟨q6.trans e.1, by have := e.2; rw [q4]; omega⟩)) (by rw [q2]; omega) (by rw [q2]; omega))
        · exact wkN_zero_0 h₀ R₁ d os w0 b1 b2 sa b t0 its n0 its' u acc na turn tu ia' j m lc x0 tq rest ra nr no cv k1 v1 k2 v2 _ p nx tk _ tt tu' ta v nx' tk' (fun h t R K post => whole_spec _ AX h 1 tt pa 0 520 t d os R rfl (by decide) K (by decide) (fun e => absurd e (by decide)) fun uu h' t' F => post uu h' t' F) (fun X p nx tk q1 q2 q3 q4 q5 q6 => IH X p nx tk q1 q3 (q4.trans q5.symm) (by rw [q4]; omega) (hs.elim (fun e => .inl (q6.trans e)) (fun e => .inr ⟨q6.trans e.1, by have := e.2; rw [q4]; omega⟩)) (by rw [q2]; omega) (by rw [q2]; omega))
        · exact wkN_zero_0 h₀ R₁ d os w0 b1 b2 sa b t0 its n0 its' u acc na turn tu ia' j m lc x0 tq rest ra nr no cv k1 v1 k2 v2 _ p nx tk _ tt tu' ta v nx' tk' (fun h t R K post => whole_spec _ AX h 2 tt pa 0 520 t d os R rfl (by decide) K (by decide) (fun e => absurd e (by decide)) fun uu h' t' F => post uu h' t' F) (fun X p nx tk q1 q2 q3 q4 q5 q6 => IH X p nx tk q1 q3 (q4.trans q5.symm) (by rw [q4]; omega) (hs.elim (fun e => .inl (q6.trans e)) (fun e => .inr ⟨q6.trans e.1, by have := e.2; rw [q4]; omega⟩)) (by rw [q2]; omega) (by rw [q2]; omega))
        · exact wkN_zero_0 h₀ R₁ d os w0 b1 b2 sa b t0 its n0 its' u acc na turn tu ia' j m lc x0 tq rest ra nr no cv k1 v1 k2 v2 _ p nx tk _ tt tu' ta v nx' tk' (fun h t R K post => whole_spec _ AX h 3 tt pa 0 520 t d os R rfl (by decide) K (by decide) (fun e => absurd e (by decide)) fun uu h' t' F => post uu h' t' F) (fun X p nx tk q1 q2 q3 q4 q5 q6 => IH X p nx tk q1 q3 (q4.trans q5.symm) (by rw [q4]; omega) (hs.elim (fun e => .inl (q6.trans e)) (fun e => .inr ⟨q6.trans e.1, by have := e.2; rw [q4]; omega⟩)) (by rw [q2]; omega) (by rw [q2]; omega))
        · exact wkN_zero_0 h₀ R₁ d os w0 b1 b2 sa b t0 its n0 its' u acc na turn tu ia' j m lc x0 tq rest ra nr no cv k1 v1 k2 v2 _ p nx tk _ tt tu' ta v nx' tk' (fun h t R K post => whole_spec _ AX h 4 tt pa 0 520 t d os R rfl (by decide) K (by decide) (fun e => absurd e (by decide)) fun uu h' t' F => post uu h' t' F) (fun X p nx tk q1 q2 q3 q4 q5 q6 => IH X p nx tk q1 q3 (q4.trans q5.symm) (by rw [q4]; omega) (hs.elim (fun e => .inl (q6.trans e)) (fun e => .inr ⟨q6.trans e.1, by have := e.2; rw [q4]; omega⟩)) (by rw [q2]; omega) (by rw [q2]; omega))
        · exact wkN_zero_0 h₀ R₁ d os w0 b1 b2 sa b t0 its n0 its' u acc na turn tu ia' j m lc x0 tq rest ra nr no cv k1 v1 k2 v2 _ p nx tk _ tt tu' ta v nx' tk' (fun h t R K post => whole_spec _ AX h 5 tt pa 0 520 t d os R rfl (by decide) K (by decide) (fun e => absurd e (by decide)) fun uu h' t' F => post uu h' t' F) (fun X p nx tk q1 q2 q3 q4 q5 q6 => IH X p nx tk q1 q3 (q4.trans q5.symm) (by rw [q4]; omega) (hs.elim (fun e => .inl (q6.trans e)) (fun e => .inr ⟨q6.trans e.1, by have := e.2; rw [q4]; omega⟩)) (by rw [q2]; omega) (by rw [q2]; omega))
        · cases b2
          · exact wkN_posi_0_bf h₀ R₁ d os w0 b1 sa b t0 its n0 its' u acc na turn tu ia' j m lc x0 tq rest ra nr no cv k1 v1 k2 v2 _ p nx tk 3 tt 2 tu' ta v nx' tk' (fun h t R K post => whole_spec _ AX h 6 tt pa 0 520 t d os R rfl (by decide) K (by decide) (fun e => absurd e (by decide)) fun uu h' t' F => post uu h' t' F) (fun X p nx tk q1 q2 q3 q4 q5 q6 => IH X p nx tk q1 q3 (q4.trans q5.symm) (by rw [q4]; omega) (hs.elim (fun e => .inl (q6.trans e)) (fun e => .inr ⟨q6.trans e.1, by have := e.2; rw [q4]; omega⟩)) (by rw [q2]; omega) (by rw [q2]; omega))
          · exact wkN_posi_0_bt h₀ R₁ d os w0 b1 sa b t0 its n0 its' u acc na turn tu ia' j m lc x0 tq rest ra nr no cv k1 v1 k2 v2 _ p nx tk 3 tt 2 tu' ta v nx' tk' (fun h t R K post => whole_spec _ AX h 6 tt pa 0 520 t d os R rfl (by decide) K (by decide) (fun e => absurd e (by decide)) fun uu h' t' F => post uu h' t' F) (fun X p nx tk q1 q2 q3 q4 q5 q6 => IH X p nx tk q1 q3 (q4.trans q5.symm) (by rw [q4]; omega) (hs.elim (fun e => .inl (q6.trans e)) (fun e => .inr ⟨q6.trans e.1, by have := e.2; rw [q4]; omega⟩)) (by rw [q2]; omega) (by rw [q2]; omega))
        · cases b2
          · exact wkN_neg_0_bf h₀ R₁ d os w0 b1 sa b t0 its n0 its' u acc na turn tu ia' j m lc x0 tq rest ra nr no cv k1 v1 k2 v2 _ p nx tk _ tt tu' ta v nx' tk' (fun h t R K post => whole_spec _ AX h 7 tt pa 0 520 t d os R rfl (by decide) K (by decide) (fun e => absurd e (by decide)) fun uu h' t' F => post uu h' t' F) (fun X p nx tk q1 q2 q3 q4 q5 q6 => IH X p nx tk q1 q3 (q4.trans q5.symm) (by rw [q4]; omega) (hs.elim (fun e => .inl (q6.trans e)) (fun e => .inr ⟨q6.trans e.1, by have := e.2; rw [q4]; omega⟩)) (by rw [q2]; omega) (by rw [q2]; omega))
          · exact wkN_neg_0_bt h₀ R₁ d os w0 b1 sa b t0 its n0 its' u acc na turn tu ia' j m lc x0 tq rest ra nr no cv k1 v1 k2 v2 _ p nx tk _ tt tu' ta v nx' tk' (fun h t R K post => whole_spec _ AX h 7 tt pa 0 520 t d os R rfl (by decide) K (by decide) (fun e => absurd e (by decide)) fun uu h' t' F => post uu h' t' F) (fun X p nx tk q1 q2 q3 q4 q5 q6 => IH X p nx tk q1 q3 (q4.trans q5.symm) (by rw [q4]; omega) (hs.elim (fun e => .inl (q6.trans e)) (fun e => .inr ⟨q6.trans e.1, by have := e.2; rw [q4]; omega⟩)) (by rw [q2]; omega) (by rw [q2]; omega))
        · cases b2
          · exact wkN_pos_0_bf h₀ R₁ d os w0 b1 sa b t0 its n0 its' u acc na turn tu ia' j m lc x0 tq rest ra nr no cv k1 v1 k2 v2 _ p nx tk _ tt 6 tu' ta v nx' tk' (fun h t R K post => whole_spec _ AX h 8 tt pa 0 520 t d os R rfl (by decide) K (by decide) (fun e => absurd e (by decide)) fun uu h' t' F => post uu h' t' F) (fun X p nx tk q1 q2 q3 q4 q5 q6 => IH X p nx tk q1 q3 (q4.trans q5.symm) (by rw [q4]; omega) (hs.elim (fun e => .inl (q6.trans e)) (fun e => .inr ⟨q6.trans e.1, by have := e.2; rw [q4]; omega⟩)) (by rw [q2]; omega) (by rw [q2]; omega))
          · exact wkN_pos_0_bt h₀ R₁ d os w0 b1 sa b t0 its n0 its' u acc na turn tu ia' j m lc x0 tq rest ra nr no cv k1 v1 k2 v2 _ p nx tk _ tt 6 tu' ta v nx' tk' (fun h t R K post => whole_spec _ AX h 8 tt pa 0 520 t d os R rfl (by decide) K (by decide) (fun e => absurd e (by decide)) fun uu h' t' F => post uu h' t' F) (fun X p nx tk q1 q2 q3 q4 q5 q6 => IH X p nx tk q1 q3 (q4.trans q5.symm) (by rw [q4]; omega) (hs.elim (fun e => .inl (q6.trans e)) (fun e => .inr ⟨q6.trans e.1, by have := e.2; rw [q4]; omega⟩)) (by rw [q2]; omega) (by rw [q2]; omega))
        · rcases hs with rfl | ⟨rfl, hs2⟩
          · exact wkU_none_0 h₀ R₁ d os w0 b1 b2 sa b t0 its n0 its' u acc na turn tu ia' j m lc x0 tq rest ra nr no cv k1 v1 k2 v2 p nx tk _ tt tu' ta v nx' tk' (fun h t R K post => whole_spec _ AX h 9 tt pa 0 520 t d os R rfl (by decide) K (by decide) (fun e => absurd e (by decide)) fun uu h' t' F => post uu h' t' F) (fun X p nx tk q1 q2 q3 q4 q5 q6 => IH X p nx tk q1 q3 (q4.trans q5.symm) (by rw [q4]; omega) (.inr ⟨q6, by rw [q4]; omega⟩) (by rw [q2]; omega) (by rw [q2]; omega))
          · exact wkS_none_0 h₀ R₁ d os w0 b1 b2 sa b t0 its n0 its' u acc na turn tu ia' j m lc x0 tq rest ra nr no cv k1 v1 k2 v2 p nx tk _ tt tu' ta v nx' tk' (fun h t R K post => whole_spec _ AX h 9 tt pa 0 520 t d os R rfl (by decide) K (by decide) (fun e => absurd e (by decide)) fun uu h' t' F => post uu h' t' F) (fun X p nx tk q1 q2 q3 q4 q5 q6 => IH X p nx tk q1 q3 (q4.trans q5.symm) (by rw [q4]; omega) (.inr ⟨q6, by rw [q4]; omega⟩) (by rw [q2]; omega) (by rw [q2]; omega))
        · rcases hs with rfl | ⟨rfl, hs2⟩
          · exact wkU_none_0 h₀ R₁ d os w0 b1 b2 sa b t0 its n0 its' u acc na turn tu ia' j m lc x0 tq rest ra nr no cv k1 v1 k2 v2 p nx tk _ tt tu' ta v nx' tk' (fun h t R K post => whole_spec _ AX h 10 tt pa 0 520 t d os R rfl (by decide) K (by decide) (fun e => absurd e (by decide)) fun uu h' t' F => post uu h' t' F) (fun X p nx tk q1 q2 q3 q4 q5 q6 => IH X p nx tk q1 q3 (q4.trans q5.symm) (by rw [q4]; omega) (.inr ⟨q6, by rw [q4]; omega⟩) (by rw [q2]; omega) (by rw [q2]; omega))
          · exact wkS_none_0 h₀ R₁ d os w0 b1 b2 sa b t0 its n0 its' u acc na turn tu ia' j m lc x0 tq rest ra nr no cv k1 v1 k2 v2 p nx tk _ tt tu' ta v nx' tk' (fun h t R K post => whole_spec _ AX h 10 tt pa 0 520 t d os R rfl (by decide) K (by decide) (fun e => absurd e (by decide)) fun uu h' t' F => post uu h' t' F) (fun X p nx tk q1 q2 q3 q4 q5 q6 => IH X p nx tk q1 q3 (q4.trans q5.symm) (by rw [q4]; omega) (.inr ⟨q6, by rw [q4]; omega⟩) (by rw [q2]; omega) (by rw [q2]; omega))
        · rcases hs with rfl | ⟨rfl, hs2⟩
          · exact wkU_none_0 h₀ R₁ d os w0 b1 b2 sa b t0 its n0 its' u acc na turn tu ia' j m lc x0 tq rest ra nr no cv k1 v1 k2 v2 p nx tk _ tt tu' ta v nx' tk' (fun h t R K post => whole_spec _ AX h 11 tt pa 0 520 t d os R rfl (by decide) K (by decide) (fun e => absurd e (by decide)) fun uu h' t' F => post uu h' t' F) (fun X p nx tk q1 q2 q3 q4 q5 q6 => IH X p nx tk q1 q3 (q4.trans q5.symm) (by rw [q4]; omega) (.inr ⟨q6, by rw [q4]; omega⟩) (by rw [q2]; omega) (by rw [q2]; omega))
          · exact wkS_none_0 h₀ R₁ d os w0 b1 b2 sa b t0 its n0 its' u acc na turn tu ia' j m lc x0 tq rest ra nr no cv k1 v1 k2 v2 p nx tk _ tt tu' ta v nx' tk' (fun h t R K post => whole_spec _ AX h 11 tt pa 0 520 t d os R rfl (by decide) K (by decide) (fun e => absurd e (by decide)) fun uu h' t' F => post uu h' t' F) (fun X p nx tk q1 q2 q3 q4 q5 q6 => IH X p nx tk q1 q3 (q4.trans q5.symm) (by rw [q4]; omega) (.inr ⟨q6, by rw [q4]; omega⟩) (by rw [q2]; omega) (by rw [q2]; omega))
        · rcases hs with rfl | ⟨rfl, hs2⟩
          · exact wkU_none_0 h₀ R₁ d os w0 b1 b2 sa b t0 its n0 its' u acc na turn tu ia' j m lc x0 tq rest ra nr no cv k1 v1 k2 v2 p nx tk _ tt tu' ta v nx' tk' (fun h t R K post => whole_spec _ AX h 13 tt pa 0 520 t d os R rfl (by decide) K (by decide) (fun e => absurd e (by decide)) fun uu h' t' F => post uu h' t' F) (fun X p nx tk q1 q2 q3 q4 q5 q6 => IH X p nx tk q1 q3 (q4.trans q5.symm) (by rw [q4]; omega) (.inr ⟨q6, by rw [q4]; omega⟩) (by rw [q2]; omega) (by rw [q2]; omega))
          · exact wkS_none_0 h₀ R₁ d os w0 b1 b2 sa b t0 its n0 its' u acc na turn tu ia' j m lc x0 tq rest ra nr no cv k1 v1 k2 v2 p nx tk _ tt tu' ta v nx' tk' (fun h t R K post => whole_spec _ AX h 13 tt pa 0 520 t d os R rfl (by decide) K (by decide) (fun e => absurd e (by decide)) fun uu h' t' F => post uu h' t' F) (fun X p nx tk q1 q2 q3 q4 q5 q6 => IH X p nx tk q1 q3 (q4.trans q5.symm) (by rw [q4]; omega) (.inr ⟨q6, by rw [q4]; omega⟩) (by rw [q2]; omega) (by rw [q2]; omega))
      · rcases hs with rfl | ⟨rfl, hs2⟩
        · exact wkU_pat_0 h₀ R₁ d os w0 b1 b2 sa b t0 its n0 its' u acc na turn tu ia' j m lc x0 tq rest ra nr no cv k1 v1 k2 v2 p nx tk pa da tu' ta nx' tk' (fun h t R K hp kp post => whole_spec _ AX h 12 0 pa da 520 t d os R rfl (by decide) K (by decide) (fun _ => ⟨hp, kp⟩) fun uu h' t' F => post uu h' t' F) (fun X p nx tk q1 q2 q3 q4 q5 q6 => IH X p nx tk q1 q3 (q4.trans q5.symm) (by rw [q4]; omega) (.inr ⟨q6, by rw [q4]; omega⟩) (by rw [q2]; omega) (by rw [q2]; omega))
        · exact wkS_pat_0 h₀ R₁ d os w0 b1 b2 sa b t0 its n0 its' u acc na turn tu ia' j m lc x0 tq rest ra nr no cv k1 v1 k2 v2 p nx tk pa da tu' ta nx' tk' (fun h t R K hp kp post => whole_spec _ AX h 12 0 pa da 520 t d os R rfl (by decide) K (by decide) (fun _ => ⟨hp, kp⟩) fun uu h' t' F => post uu h' t' F) (fun X p nx tk q1 q2 q3 q4 q5 q6 => IH X p nx tk q1 q3 (q4.trans q5.symm) (by rw [q4]; omega) (.inr ⟨q6, by rw [q4]; omega⟩) (by rw [q2]; omega) (by rw [q2]; omega))
    · refine headU h₀ R₁ d os w0 b1 b2 sa b t0 its n0 its' u acc na ⟨turn, tu, ia', j, m, lc, x0, tq, rest, ra, nr, [(a1, c1)], no, [(f1, g1)], cv, k1, v1, k2, v2, sl⟩ m p nx tk hc (by omega) h0 (by show turn ≤ 1000; omega) (fun r tt v pa ta tu' nx' tk' hr14 h12 => ?_) (fun v pa da ta tu' nx' tk' => ?_)
      · rcases (by omega : r = 0 ∨ r = 1 ∨ r = 2 ∨ r = 3 ∨ r = 4 ∨ r = 5 ∨ r = 6 ∨ r = 7 ∨ r = 8 ∨ r = 9 ∨ r = 10 ∨ r = 11 ∨ r = 13) with rfl | rfl | rfl | rfl | rfl | rfl | rfl | rfl | rfl | rfl | rfl | rfl | rfl
        · exact wkN_zeroi_1 h₀ R₁ d os w0 b1 b2 sa b t0 its n0 its' u acc na turn tu ia' j m lc x0 tq rest ra nr a1 c1 f1 g1 no cv k1 v1 k2 v2 _ p nx tk 0 tt tu' ta v nx' tk' (fun h t R K post => whole_spec _ AX h 0 tt pa 0 520 t d os R rfl (by decide) K (by decide) (fun e => absurd e (by decide)) fun uu h' t' F => post uu h' t' F) (fun X p nx tk q1 q2 q3 q4 q5 q6 => IH X p nx tk q1 q3 (q4.trans q5.symm) (by rw [q4]; omega) (hs.elim (fun e => .inl (q6.trans e)) (fun e => .inr ⟨q6.trans e.1, by have := e.2; rw [q4]; omega⟩)) (by rw [q2]; omega) (by rw [q2]; omega))
        · exact wkN_zero_1 h₀ R₁ d os w0 b1 b2 sa b t0 its n0 its' u acc na turn tu ia' j m lc x0 tq rest ra nr a1 c1 f1 g1 no cv k1 v1 k2 v2 _ p nx tk _ tt tu' ta v nx' tk' (fun h t R K post => whole_spec _ AX h 1 tt pa 0 520 t d os R rfl (by decide) K (by decide) (fun e => absurd e (by decide)) fun uu h' t' F => post uu h' t' F) (fun X p nx tk q1 q2 q3 q4 q5 q6 => IH X p nx tk q1 q3 (q4.trans q5.symm) (by rw [q4]; omega) (hs.elim (fun e => .inl (q6.trans e)) (fun e => .inr ⟨q6.trans e.1, by have := e.2; rw [q4]; omega⟩)) (by rw [q2]; omega) (by rw [q2]; omega))
        · exact wkN_zero_1 h₀ R₁ d os w0 b1 b2 sa b t0 its n0 its' u acc na turn tu ia' j m lc x0 tq rest ra nr a1 c1 f1 g1 no cv k1 v1 k2 v2 _ p nx tk _ tt tu' ta v nx' tk' (fun h t R K post => whole_spec _ AX h 2 tt pa 0 520 t d os R rfl (by decide) K (by decide) (fun e => absurd e (by decide)) fun uu h' t' F => post uu h' t' F) (fun X p nx tk q1 q2 q3 q4 q5 q6 => IH X p nx tk q1 q3 (q4.trans q5.symm) (by rw [q4]; omega) (hs.elim (fun e => .inl (q6.trans e)) (fun e => .inr ⟨q6.trans e.1, by have := e.2; rw [q4]; omega⟩)) (by rw [q2]; omega) (by rw [q2]; omega))
        · exact wkN_zero_1 h₀ R₁ d os w0 b1 b2 sa b t0 its n0 its' u acc na turn tu ia' j m lc x0 tq rest ra nr a1 c1 f1 g1 no cv k1 v1 k2 v2 _ p nx tk _ tt tu' ta v nx' tk' (fun h t R K post => whole_spec _ AX h 3 tt pa 0 520 t d os R rfl (by decide) K (by decide) (fun e => absurd e (by decide)) fun uu h' t' F => post uu h' t' F) (fun X p nx tk q1 q2 q3 q4 q5 q6 => IH X p nx tk q1 q3 (q4.trans q5.symm) (by rw [q4]; omega) (hs.elim (fun e => .inl (q6.trans e)) (fun e => .inr ⟨q6.trans e.1, by have := e.2; rw [q4]; omega⟩)) (by rw [q2]; omega) (by rw [q2]; omega))
        · exact wkN_zero_1 h₀ R₁ d os w0 b1 b2 sa b t0 its n0 its' u acc na turn tu ia' j m lc x0 tq rest ra nr a1 c1 f1 g1 no cv k1 v1 k2 v2 _ p nx tk _ tt tu' ta v nx' tk' (fun h t R K post => whole_spec _ AX h 4 tt pa 0 520 t d os R rfl (by decide) K (by decide) (fun e => absurd e (by decide)) fun uu h' t' F => post uu h' t' F) (fun X p nx tk q1 q2 q3 q4 q5 q6 => IH X p nx tk q1 q3 (q4.trans q5.symm) (by rw [q4]; omega) (hs.elim (fun e => .inl (q6.trans e)) (fun e => .inr ⟨q6.trans e.1, by have := e.2; rw [q4]; omega⟩)) (by rw [q2]; omega) (by rw [q2]; omega))
        · exact wkN_zero_1 h₀ R₁ d os w0 b1 b2 sa b t0 its n0 its' u acc na turn tu ia' j m lc x0 tq rest ra nr a1 c1 f1 g1 no cv k1 v1 k2 v2 _ p nx tk _ tt tu' ta v nx' tk' (fun h t R K post => whole_spec _ AX h 5 tt pa 0 520 t d os R rfl (by decide) K (by decide) (fun e => absurd e (by decide)) fun uu h' t' F => post uu h' t' F) (fun X p nx tk q1 q2 q3 q4 q5 q6 => IH X p nx tk q1 q3 (q4.trans q5.symm) (by rw [q4]; omega) (hs.elim (fun e => .inl (q6.trans e)) (fun e => .inr ⟨q6.trans e.1, by have := e.2; rw [q4]; omega⟩)) (by rw [q2]; omega) (by rw [q2]; omega))
        · cases b2
          · exact wkN_posi_1_bf h₀ R₁ d os w0 b1 sa b t0 its n0 its' u acc na turn tu ia' j m lc x0 tq rest ra nr a1 c1 f1 g1 no cv k1 v1 k2 v2 _ p nx tk 3 tt 2 tu' ta v nx' tk' (fun h t R K post => whole_spec _ AX h 6 tt pa 0 520 t d os R rfl (by decide) K (by decide) (fun e => absurd e (by decide)) fun uu h' t' F => post uu h' t' F) (fun X p nx tk q1 q2 q3 q4 q5 q6 => IH X p nx tk q1 q3 (q4.trans q5.symm) (by rw [q4]; omega) (hs.elim (fun e => .inl (q6.trans e)) (fun e => .inr ⟨q6.trans e.1, by have := e.2; rw [q4]; omega⟩)) (by rw [q2]; omega) (by rw [q2]; omega))
          · exact wkN_posi_1_bt h₀ R₁ d os w0 b1 sa b t0 its n0 its' u acc na turn tu ia' j m lc x0 tq rest ra nr a1 c1 f1 g1 no cv k1 v1 k2 v2 _ p nx tk 3 tt 2 tu' ta v nx' tk' (fun h t R K post => whole_spec _ AX h 6 tt pa 0 520 t d os R rfl (by decide) K (by decide) (fun e => absurd e (by decide)) fun uu h' t' F => post uu h' t' F) (fun X p nx tk q1 q2 q3 q4 q5 q6 => IH X p nx tk q1 q3 (q4.trans q5.symm) (by rw [q4]; omega) (hs.elim (fun e => .inl (q6.trans e)) (fun e => .inr ⟨q6.trans e.1, by have := e.2; rw [q4]; omega⟩)) (by rw [q2]; omega) (by rw [q2]; omega))
        · cases b2
          · exact wkN_neg_1_bf h₀ R₁ d os w0 b1 sa b t0 its n0 its' u acc na turn tu ia' j m lc x0 tq rest ra nr a1 c1 f1 g1 no cv k1 v1 k2 v2 _ p nx tk _ tt tu' ta v nx' tk' (fun h t R K post => whole_spec _ AX h 7 tt pa 0 520 t d os R rfl (by decide) K (by decide) (fun e => absurd e (by decide)) fun uu h' t' F => post uu h' t' F) (fun X p nx tk q1 q2 q3 q4 q5 q6 => IH X p nx tk q1 q3 (q4.trans q5.symm) (by rw [q4]; omega) (hs.elim (fun e => .inl (q6.trans e)) (fun e => .inr ⟨q6.trans e.1, by have := e.2; rw [q4]; omega⟩)) (by rw [q2]; omega) (by rw [q2]; omega))
          · exact wkN_neg_1_bt h₀ R₁ d os w0 b1 sa b t0 its n0 its' u acc na turn tu ia' j m lc x0 tq rest ra nr a1 c1 f1 g1 no cv k1 v1 k2 v2 _ p nx tk _ tt tu' ta v nx' tk' (fun h t R K post => whole_spec _ AX h 7 tt pa 0 520 t d os R rfl (by decide) K (by decide) (fun e => absurd e (by decide)) fun uu h' t' F => post uu h' t' F) (fun X p nx tk q1 q2 q3 q4 q5 q6 => IH X p nx tk q1 q3 (q4.trans q5.symm) (by rw [q4]; omega) (hs.elim (fun e => .inl (q6.trans e)) (fun e => .inr ⟨q6.trans e.1, by have := e.2; rw [q4]; omega⟩)) (by rw [q2]; omega) (by rw [q2]; omega))
        · cases b2
          · exact wkN_pos_1_bf h₀ R₁ d os w0 b1 sa b t0 its n0 its' u acc na turn tu ia' j m lc x0 tq rest ra nr a1 c1 f1 g1 no cv k1 v1 k2 v2 _ p nx tk _ tt 6 tu' ta v nx' tk' (fun h t R K post => whole_spec _ AX h 8 tt pa 0 520 t d os R rfl (by decide) K (by decide) (fun e => absurd e (by decide)) fun uu h' t' F => post uu h' t' F) (fun X p nx tk q1 q2 q3 q4 q5 q6 => IH X p nx tk q1 q3 (q4.trans q5.symm) (by rw [q4]; omega) (hs.elim (fun e => .inl (q6.trans e)) (fun e => .inr ⟨q6.trans e.1, by have := e.2; rw [q4]; omega⟩)) (by rw [q2]; omega) (by rw [q2]; omega))
          · exact wkN_pos_1_bt h₀ R₁ d os w0 b1 sa b t0 its n0 its' u acc na turn tu ia' j m lc x0 tq rest ra nr a1 c1 f1 g1 no cv k1 v1 k2 v2 _ p nx tk _ tt 6 tu' ta v nx' tk' (fun h t R K post => whole_spec _ AX h 8 tt pa 0 520 t d os R rfl (by decide) K (by decide) (fun e => absurd e (by decide)) fun uu h' t' F => post uu h' t' F) (fun X p nx tk q1 q2 q3 q4 q5 q6 => IH X p nx tk q1 q3 (q4.trans q5.symm) (by rw [q4]; omega) (hs.elim (fun e => .inl (q6.trans e)) (fun e => .inr ⟨q6.trans e.1, by have := e.2; rw [q4]; omega⟩)) (by rw [q2]; omega) (by rw [q2]; omega))
        · rcases hs with rfl | ⟨rfl, hs2⟩
          · exact wkU_none_1 h₀ R₁ d os w0 b1 b2 sa b t0 its n0 its' u acc na turn tu ia' j m lc x0 tq rest ra nr a1 c1 f1 g1 no cv k1 v1 k2 v2 p nx tk _ tt tu' ta v nx' tk' (fun h t R K post => whole_spec _ AX h 9 tt pa 0 520 t d os R rfl (by decide) K (by decide) (fun e => absurd e (by decide)) fun uu h' t' F => post uu h' t' F) (fun X p nx tk q1 q2 q3 q4 q5 q6 => IH X p nx tk q1 q3 (q4.trans q5.symm) (by rw [q4]; omega) (.inr ⟨q6, by rw [q4]; omega⟩) (by rw [q2]; omega) (by rw [q2]; omega))
          · exact wkS_none_1 h₀ R₁ d os w0 b1 b2 sa b t0 its n0 its' u acc na turn tu ia' j m lc x0 tq rest ra nr a1 c1 f1 g1 no cv k1 v1 k2 v2 p nx tk _ tt tu' ta v nx' tk' (fun h t R K post => whole_spec _ AX h 9 tt pa 0 520 t d os R rfl (by decide) K (by decide) (fun e => absurd e (by decide)) fun uu h' t' F => post uu h' t' F) (fun X p nx tk q1 q2 q3 q4 q5 q6 => IH X p nx tk q1 q3 (q4.trans q5.symm) (by rw [q4]; omega) (.inr ⟨q6, by rw [q4]; omega⟩) (by rw [q2]; omega) (by rw [q2]; omega))
        · rcases hs with rfl | ⟨rfl, hs2⟩
          · exact wkU_none_1 h₀ R₁ d os w0 b1 b2 sa b t0 its n0 its' u acc na turn tu ia' j m lc x0 tq rest ra nr a1 c1 f1 g1 no cv k1 v1 k2 v2 p nx tk _ tt tu' ta v nx' tk' (fun h t R K post => whole_spec _ AX h 10 tt pa 0 520 t d os R rfl (by decide) K (by decide) (fun e => absurd e (by decide)) fun uu h' t' F => post uu h' t' F) (fun X p nx tk q1 q2 q3 q4 q5 q6 => IH X p nx tk q1 q3 (q4.trans q5.symm) (by rw [q4]; omega) (.inr ⟨q6, by rw [q4]; omega⟩) (by rw [q2]; omega) (by rw [q2]; omega))
          · exact wkS_none_1 h₀ R₁ d os w0 b1 b2 sa b t0 its n0 its' u acc na turn tu ia' j m lc x0 tq rest ra nr a1 c1 f1 g1 no cv k1 v1 k2 v2 p nx tk _ tt tu' ta v nx' tk' (fun h t R K post => whole_spec _ AX h 10 tt pa 0 520 t d os R rfl (by decide) K (by decide) (fun e => absurd e (by decide)) fun uu h' t' F => post uu h' t' F) (fun X p nx tk q1 q2 q3 q4 q5 q6 => IH X p nx tk q1 q3 (q4.trans q5.symm) (by rw [q4]; omega) (.inr ⟨q6, by rw [q4]; omega⟩) (by rw [q2]; omega) (by rw [q2]; omega))
        · rcases hs with rfl | ⟨rfl, hs2⟩
          · exact wkU_none_1 h₀ R₁ d os w0 b1 b2 sa b t0 its n0 its' u acc na turn tu ia' j m lc x0 tq rest ra nr a1 c1 f1 g1 no cv k1 v1 k2 v2 p nx tk _ tt tu' ta v nx' tk' (fun h t R K post => whole_spec _ AX h 11 tt pa 0 520 t d os R rfl (by decide) K (by decide) (fun e => absurd e (by decide)) fun uu h' t' F => post uu h' t' F) (fun X p nx tk q1 q2 q3 q4 q5 q6 => IH X p nx tk q1 q3 (q4.trans q5.symm) (by rw [q4]; omega) (.inr ⟨q6, by rw [q4]; omega⟩) (by rw [q2]; omega) (by rw [q2]; omega))
          · exact wkS_none_1 h₀ R₁ d os w0 b1 b2 sa b t0 its n0 its' u acc na turn tu ia' j m lc x0 tq rest ra nr a1 c1 f1 g1 no cv k1 v1 k2 v2 p nx tk _ tt tu' ta v nx' tk' (fun h t R K post => whole_spec _ AX h 11 tt pa 0 520 t d os R rfl (by decide) K (by decide) (fun e => absurd e (by decide)) fun uu h' t' F => post uu h' t' F) (fun X p nx tk q1 q2 q3 q4 q5 q6 => IH X p nx tk q1 q3 (q4.trans q5.symm) (by rw [q4]; omega) (.inr ⟨q6, by rw [q4]; omega⟩) (by rw [q2]; omega) (by rw [q2]; omega))
        · rcases hs with rfl | ⟨rfl, hs2⟩
          · exact wkU_none_1 h₀ R₁ d os w0 b1 b2 sa b t0 its n0 its' u acc na turn tu ia' j m lc x0 tq rest ra nr a1 c1 f1 g1 no cv k1 v1 k2 v2 p nx tk _ tt tu' ta v nx' tk' (fun h t R K post => whole_spec _ AX h 13 tt pa 0 520 t d os R rfl (by decide) K (by decide) (fun e => absurd e (by decide)) fun uu h' t' F => post uu h' t' F) (fun X p nx tk q1 q2 q3 q4 q5 q6 => IH X p nx tk q1 q3 (q4.trans q5.symm) (by rw [q4]; omega) (.inr ⟨q6, by rw [q4]; omega⟩) (by rw [q2]; omega) (by rw [q2]; omega))
          · exact wkS_none_1 h₀ R₁ d os w0 b1 b2 sa b t0 its n0 its' u acc na turn tu ia' j m lc x0 tq rest ra nr a1 c1 f1 g1 no cv k1 v1 k2 v2 p nx tk _ tt tu' ta v nx' tk' (fun h t R K post => whole_spec _ AX h 13 tt pa 0 520 t d os R rfl (by decide) K (by decide) (fun e => absurd e (by decide)) fun uu h' t' F => post uu h' t' F) (fun X p nx tk q1 q2 q3 q4 q5 q6 => IH X p nx tk q1 q3 (q4.trans q5.symm) (by rw [q4]; omega) (.inr ⟨q6, by rw [q4]; omega⟩) (by rw [q2]; omega) (by rw [q2]; omega))
      · rcases hs with rfl | ⟨rfl, hs2⟩
        · exact wkU_pat_1 h₀ R₁ d os w0 b1 b2 sa b t0 its n0 its' u acc na turn tu ia' j m lc x0 tq rest ra nr a1 c1 f1 g1 no cv k1 v1 k2 v2 p nx tk pa da tu' ta nx' tk' (fun h t R K hp kp post => whole_spec _ AX h 12 0 pa da 520 t d os R rfl (by decide) K (by decide) (fun _ => ⟨hp, kp⟩) fun uu h' t' F => post uu h' t' F) (fun X p nx tk q1 q2 q3 q4 q5 q6 => IH X p nx tk q1 q3 (q4.trans q5.symm) (by rw [q4]; omega) (.inr ⟨q6, by rw [q4]; omega⟩) (by rw [q2]; omega) (by rw [q2]; omega))
        · exact wkS_pat_1 h₀ R₁ d os w0 b1 b2 sa b t0 its n0 its' u acc na turn tu ia' j m lc x0 tq rest ra nr a1 c1 f1 g1 no cv k1 v1 k2 v2 p nx tk pa da tu' ta nx' tk' (fun h t R K hp kp post => whole_spec _ AX h 12 0 pa da 520 t d os R rfl (by decide) K (by decide) (fun _ => ⟨hp, kp⟩) fun uu h' t' F => post uu h' t' F) (fun X p nx tk q1 q2 q3 q4 q5 q6 => IH X p nx tk q1 q3 (q4.trans q5.symm) (by rw [q4]; omega) (.inr ⟨q6, by rw [q4]; omega⟩) (by rw [q2]; omega) (by rw [q2]; omega))
    · refine headU h₀ R₁ d os w0 b1 b2 sa b t0 its n0 its' u acc na ⟨turn, tu, ia', j, m, lc, x0, tq, rest, ra, nr, [(a1, c1), (a2, c2)], no, [(f1, g1), (f2, g2)], cv, k1, v1, k2, v2, sl⟩ m p nx tk hc (by omega) h0 (by show turn ≤ 1000; omega) (fun r tt v pa ta tu' nx' tk' hr14 h12 => ?_) (fun v pa da ta tu' nx' tk' => ?_)
      · rcases (by omega : r = 0 ∨ r = 1 ∨ r = 2 ∨ r = 3 ∨ r = 4 ∨ r = 5 ∨ r = 6 ∨ r = 7 ∨ r = 8 ∨ r = 9 ∨ r = 10 ∨ r = 11 ∨ r = 13) with rfl | rfl | rfl | rfl | rfl | rfl | rfl | rfl | rfl | rfl | rfl | rfl | rfl
        · exact wkN_zeroi_2 h₀ R₁ d os w0 b1 b2 sa b t0 its n0 its' u acc na turn tu ia' j m lc x0 tq rest ra nr a1 c1 f1 g1 a2 c2 f2 g2 no cv k1 v1 k2 v2 _ p nx tk 0 tt tu' ta v nx' tk' (fun h t R K post => whole_spec _ AX h 0 tt pa 0 520 t d os R rfl (by decide) K (by decide) (fun e => absurd e (by decide)) fun uu h' t' F => post uu h' t' F) (fun X p nx tk q1 q2 q3 q4 q5 q6 => IH X p nx tk q1 q3 (q4.trans q5.symm) (by rw [q4]; omega) (hs.elim (fun e => .inl (q6.trans e)) (fun e => .inr ⟨q6.trans e.1, by have := e.2; rw [q4]; omega⟩)) (by rw [q2]; omega) (by rw [q2]; omega))
        · exact wkN_zero_2 h₀ R₁ d os w0 b1 b2 sa b t0 its n0 its' u acc na turn tu ia' j m lc x0 tq rest ra nr a1 c1 f1 g1 a2 c2 f2 g2 no cv k1 v1 k2 v2 _ p nx tk _ tt tu' ta v nx' tk' (fun h t R K post => whole_spec _ AX h 1 tt pa 0 520 t d os R rfl (by decide) K (by decide) (fun e => absurd e (by decide)) fun uu h' t' F => post uu h' t' F) (fun X p nx tk q1 q2 q3 q4 q5 q6 => IH X p nx tk q1 q3 (q4.trans q5.symm) (by rw [q4]; omega) (hs.elim (fun e => .inl (q6.trans e)) (fun e => .inr ⟨q6.trans e.1, by have := e.2; rw [q4]; omega⟩)) (by rw [q2]; omega) (by rw [q2]; omega))
        · exact wkN_zero_2 h₀ R₁ d os w0 b1 b2 sa b t0 its n0 its' u acc na turn tu ia' j m lc x0 tq rest ra nr a1 c1 f1 g1 a2 c2 f2 g2 no cv k1 v1 k2 v2 _ p nx tk _ tt tu' ta v nx' tk' (fun h t R K post => whole_spec _ AX h 2 tt pa 0 520 t d os R rfl (by decide) K (by decide) (fun e => absurd e (by decide)) fun uu h' t' F => post uu h' t' F) (fun X p nx tk q1 q2 q3 q4 q5 q6 => IH X p nx tk q1 q3 (q4.trans q5.symm) (by rw [q4]; omega) (hs.elim (fun e => .inl (q6.trans e)) (fun e => .inr ⟨q6.trans e.1, by have := e.2; rw [q4]; omega⟩)) (by rw [q2]; omega) (by rw [q2]; omega))
        · exact wkN_zero_2 h₀ R₁ d os w0 b1 b2 sa b t0 its n0 its' u acc na turn tu ia' j m lc x0 tq rest ra nr a1 c1 f1 g1 a2 c2 f2 g2 no cv k1 v1 k2 v2 _ p nx tk _ tt tu' ta v nx' tk' (fun h t R K post => whole_spec _ AX h 3 tt pa 0 520 t d os R rfl (by decide) K (by decide) (fun e => absurd e (by decide)) fun uu h' t' F => post uu h' t' F) (fun X p nx tk q1 q2 q3 q4 q5 q6 => IH X p nx tk q1 q3 (q4.trans q5.symm) (by rw [q4]; omega) (hs.elim (fun e => .inl (q6.trans e)) (fun e => .inr ⟨q6.trans e.1, by have := e.2; rw [q4]; omega⟩)) (by rw [q2]; omega) (by rw [q2]; omega))
        · exact wkN_zero_2 h₀ R₁ d os w0 b1 b2 sa b t0 its n0 its' u acc na turn tu ia' j m lc x0 tq rest ra nr a1 c1 f1 g1 a2 c2 f2 g2 no cv k1 v1 k2 v2 _ p nx tk _ tt tu' ta v nx' tk' (fun h t R K post => whole_spec _ AX h 4 tt pa 0 520 t d os R rfl (by decide) K (by decide) (fun e => absurd e (by decide)) fun uu h' t' F => post uu h' t' F) (fun X p nx tk q1 q2 q3 q4 q5 q6 => IH X p nx tk q1 q3 (q4.trans q5.symm) (by rw [q4]; omega) (hs.elim (fun e => .inl (q6.trans e)) (fun e => .inr ⟨q6.trans e.1, by have := e.2; rw [q4]; omega⟩)) (by rw [q2]; omega) (by rw [q2]; omega))
        · exact wkN_zero_2 h₀ R₁ d os w0 b1 b2 sa b t0 its n0 its' u acc na turn tu ia' j m lc x0 tq rest ra nr a1 c1 f1 g1 a2 c2 f2 g2 no cv k1 v1 k2 v2 _ p nx tk _ tt tu' ta v nx' tk' (fun h t R K post => whole_spec _ AX h 5 tt pa 0 520 t d os R rfl (by decide) K (by decide) (fun e => absurd e (by decide)) fun uu h' t' F => post uu h' t' F) (fun X p nx tk q1 q2 q3 q4 q5 q6 => IH X p nx tk q1 q3 (q4.trans q5.symm) (by rw [q4]; omega) (hs.elim (fun e => .inl (q6.trans e)) (fun e => .inr ⟨q6.trans e.1, by have := e.2; rw [q4]; omega⟩)) (by rw [q2]; omega) (by rw [q2]; omega))
        · cases b2
          · exact wkN_posi_2_bf h₀ R₁ d os w0 b1 sa b t0 its n0 its' u acc na turn tu ia' j m lc x0 tq rest ra nr a1 c1 f1 g1 a2 c2 f2 g2 no cv k1 v1 k2 v2 _ p nx tk 3 tt 2 tu' ta v nx' tk' (fun h t R K post => whole_spec _ AX h 6 tt pa 0 520 t d os R rfl (by decide) K (by decide) (fun e => absurd e (by decide)) fun uu h' t' F => post uu h' t' F) (fun X p nx tk q1 q2 q3 q4 q5 q6 => IH X p nx tk q1 q3 (q4.trans q5.symm) (by rw [q4]; omega) (hs.elim (fun e => .inl (q6.trans e)) (fun e => .inr ⟨q6.trans e.1, by have := e.2; rw [q4]; omega⟩)) (by rw [q2]; omega) (by rw [q2]; omega))
          · exact wkN_posi_2_bt h₀ R₁ d os w0 b1 sa b t0 its n0 its' u acc na turn tu ia' j m lc x0 tq rest ra nr a1 c1 f1 g1 a2 c2 f2 g2 no cv k1 v1 k2 v2 _ p nx tk 3 tt 2 tu' ta v nx' tk' (fun h t R K post => whole_spec _ AX h 6 tt pa 0 520 t d os R rfl (by decide) K (by decide) (fun e => absurd e (by decide)) fun uu h' t' F => post uu h' t' F) (fun X p nx tk q1 q2 q3 q4 q5 q6 => IH X p nx tk q1 q3 (q4.trans q5.symm) (by rw [q4]; omega) (hs.elim (fun e => .inl (q6.trans e)) (fun e => .inr ⟨q6.trans e.1, by have := e.2; rw [q4]; omega⟩)) (by rw [q2]; omega) (by rw [q2]; omega))
        · cases b2
          · exact wkN_neg_2_bf h₀ R₁ d os w0 b1 sa b t0 its n0 its' u acc na turn tu ia' j m lc x0 tq rest ra nr a1 c1 f1 g1 a2 c2 f2 g2 no cv k1 v1 k2 v2 _ p nx tk _ tt tu' ta v nx' tk' (fun h t R K post => whole_spec _ AX h 7 tt pa 0 520 t d os R rfl (by decide) K (by decide) (fun e => absurd e (by decide)) fun uu h' t' F => post uu h' t' F) (fun X p nx tk q1 q2 q3 q4 q5 q6 => IH X p nx tk q1 q3 (q4.trans q5.symm) (by rw [q4]; omega) (hs.elim (fun e => .inl (q6.trans e)) (fun e => .inr ⟨q6.trans e.1, by have := e.2; rw [q4]; omega⟩)) (by rw [q2]; omega) (by rw [q2]; omega))
          · exact wkN_neg_2_bt h₀ R₁ d os w0 b1 sa b t0 its n0 its' u acc na turn tu ia' j m lc x0 tq rest ra nr a1 c1 f1 g1 a2 c2 f2 g2 no cv k1 v1 k2 v2 _ p nx tk _ tt tu' ta v nx' tk' (fun h t R K post => whole_spec _ AX h 7 tt pa 0 520 t d os R rfl (by decide) K (by decide) (fun e => absurd e (by decide)) fun uu h' t' F => post uu h' t' F) (fun X p nx tk q1 q2 q3 q4 q5 q6 => IH X p nx tk q1 q3 (q4.trans q5.symm) (by rw [q4]; omega) (hs.elim (fun e => .inl (q6.trans e)) (fun e => .inr ⟨q6.trans e.1, by have := e.2; rw [q4]; omega⟩)) (by rw [q2]; omega) (by rw [q2]; omega))
        · cases b2
          · exact wkN_pos_2_bf h₀ R₁ d os w0 b1 sa b t0 its n0 its' u acc na turn tu ia' j m lc x0 tq rest ra nr a1 c1 f1 g1 a2 c2 f2 g2 no cv k1 v1 k2 v2 _ p nx tk _ tt 6 tu' ta v nx' tk' (fun h t R K post => whole_spec _ AX h 8 tt pa 0 520 t d os R rfl (by decide) K (by decide) (fun e => absurd e (by decide)) fun uu h' t' F => post uu h' t' F) (fun X p nx tk q1 q2 q3 q4 q5 q6 => IH X p nx tk q1 q3 (q4.trans q5.symm) (by rw [q4]; omega) (hs.elim (fun e => .inl (q6.trans e)) (fun e => .inr ⟨q6.trans e.1, by have := e.2; rw [q4]; omega⟩)) (by rw [q2]; omega) (by rw [q2]; omega))
          · exact wkN_pos_2_bt h₀ R₁ d os w0 b1 sa b t0 its n0 its' u acc na turn tu ia' j m lc x0 tq rest ra nr a1 c1 f1 g1 a2 c2 f2 g2 no cv k1 v1 k2 v2 _ p nx tk _ tt 6 tu' ta v nx' tk' (fun h t R K post => whole_spec _ AX h 8 tt pa 0 520 t d os R rfl (by decide) K (by decide) (fun e => absurd e (by decide)) fun uu h' t' F => post uu h' t' F) (fun X p nx tk q1 q2 q3 q4 q5 q6 => IH X p nx tk q1 q3 (q4.trans q5.symm) (by rw [q4]; omega) (hs.elim (fun e => .inl (q6.trans e)) (fun e => .inr ⟨q6.trans e.1, by have := e.2; rw [q4]; omega⟩)) (by rw [q2]; omega) (by rw [q2]; omega))
        · rcases hs with rfl | ⟨rfl, hs2⟩
          · exact wkU_none_2 h₀ R₁ d os w0 b1 b2 sa b t0 its n0 its' u acc na turn tu ia' j m lc x0 tq rest ra nr a1 c1 f1 g1 a2 c2 f2 g2 no cv k1 v1 k2 v2 p nx tk _ tt tu' ta v nx' tk' (fun h t R K post => whole_spec _ AX h 9 tt pa 0 520 t d os R rfl (by decide) K (by decide) (fun e => absurd e (by decide)) fun uu h' t' F => post uu h' t' F) (fun X p nx tk q1 q2 q3 q4 q5 q6 => IH X p nx tk q1 q3 (q4.trans q5.symm) (by rw [q4]; omega) (.inr ⟨q6, by rw [q4]; omega⟩) (by rw [q2]; omega) (by rw [q2]; omega))
          · exfalso; omega
        · rcases hs with rfl | ⟨rfl, hs2⟩
          · exact wkU_none_2 h₀ R₁ d os w0 b1 b2 sa b t0 its n0 its' u acc na turn tu ia' j m lc x0 tq rest ra nr a1 c1 f1 g1 a2 c2 f2 g2 no cv k1 v1 k2 v2 p nx tk _ tt tu' ta v nx' tk' (fun h t R K post => whole_spec _ AX h 10 tt pa 0 520 t d os R rfl (by decide) K (by decide) (fun e => absurd e (by decide)) fun uu h' t' F => post uu h' t' F) (fun X p nx tk q1 q2 q3 q4 q5 q6 => IH X p nx tk q1 q3 (q4.trans q5.symm) (by rw [q4]; omega) (.inr ⟨q6, by rw [q4]; omega⟩) (by rw [q2]; omega) (by rw [q2]; omega))
          · exfalso; omega
        · rcases hs with rfl | ⟨rfl, hs2⟩
          · exact wkU_none_2 h₀ R₁ d os w0 b1 b2 sa b t0 its n0 its' u acc na turn tu ia' j m lc x0 tq rest ra nr a1 c1 f1 g1 a2 c2 f2 g2 no cv k1 v1 k2 v2 p nx tk _ tt tu' ta v nx' tk' (fun h t R K post => whole_spec _ AX h 11 tt pa 0 520 t d os R rfl (by decide) K (by decide) (fun e => absurd e (by decide)) fun uu h' t' F => post uu h' t' F) (fun X p nx tk q1 q2 q3 q4 q5 q6 => IH X p nx tk q1 q3 (q4.trans q5.symm) (by rw [q4]; omega) (.inr ⟨q6, by rw [q4]; omega⟩) (by rw [q2]; omega) (by rw [q2]; omega))
          · exfalso; omega
        · rcases hs with rfl | ⟨rfl, hs2⟩
          · exact wkU_none_2 h₀ R₁ d os w0 b1 b2 sa b t0 its n0 its' u acc na turn tu ia' j m lc x0 tq rest ra nr a1 c1 f1 g1 a2 c2 f2 g2 no cv k1 v1 k2 v2 p nx tk _ tt tu' ta v nx' tk' (fun h t R K post => whole_spec _ AX h 13 tt pa 0 520 t d os R rfl (by decide) K (by decide) (fun e => absurd e (by decide)) fun uu h' t' F => post uu h' t' F) (fun X p nx tk q1 q2 q3 q4 q5 q6 => IH X p nx tk q1 q3 (q4.trans q5.symm) (by rw [q4]; omega) (.inr ⟨q6, by rw [q4]; omega⟩) (by rw [q2]; omega) (by rw [q2]; omega))
          · exfalso; omega
      · rcases hs with rfl | ⟨rfl, hs2⟩
        · exact wkU_pat_2 h₀ R₁ d os w0 b1 b2 sa b t0 its n0 its' u acc na turn tu ia' j m lc x0 tq rest ra nr a1 c1 f1 g1 a2 c2 f2 g2 no cv k1 v1 k2 v2 p nx tk pa da tu' ta nx' tk' (fun h t R K hp kp post => whole_spec _ AX h 12 0 pa da 520 t d os R rfl (by decide) K (by decide) (fun _ => ⟨hp, kp⟩) fun uu h' t' F => post uu h' t' F) (fun X p nx tk q1 q2 q3 q4 q5 q6 => IH X p nx tk q1 q3 (q4.trans q5.symm) (by rw [q4]; omega) (.inr ⟨q6, by rw [q4]; omega⟩) (by rw [q2]; omega) (by rw [q2]; omega))
        · exfalso; omega
end
end Mine
end
section
namespace Mine
section
variable (h₀ : Heap) (R₁ : Result → Shared → Prop) (d : Drawn) (os : OsState) (w0 : World) (b1 b2 : Bool) (sa b t0 : Nat) (its : List Value) (n0 : Nat) (its' : List Value) (u : Nat) (acc : List Value) (na : Nat)
theorem first (hc : Cells acc) (hl : acc.length ≤ 24) (ia : Nat)
    (next : ∀ (X : T1) nx' tk' h', X.ia = ia → 0 ≤ X.turn → X.turn ≤ 100 → (X.sl = ⟨[]⟩ ∨ X.sl = slS b) → Rep (wsL (Dw.toLw ⟨⟨w0, b1, b2, sa, b, t0, its, n0, [], its'⟩, u, acc, na⟩).w) h₀ [349] (TB ⟨⟨w0, b1, b2, sa, b, t0, its, n0, [], its'⟩, u, acc, na⟩ X) nx' h' → R₁ (.ok .next) ⟨h', #[], d, tk', os⟩)
    (turn : Int) (tu m : Nat) (p : Pos) (nx tk : Nat) (hm : m ≤ 2) (h0 : 0 ≤ turn) (h1 : turn ≤ 1) :
    GoX (vb (VD ⟨⟨w0, b1, b2, sa, b, t0, its, n0, [], its'⟩, u, acc, na⟩ ia) h₀ R₁ d os) (sD0 ⟨⟨w0, b1, b2, sa, b, t0, its, n0, [], its'⟩, u, acc, na⟩ turn tu ia 0 (m + 1) p nx tk) := by
  have LP := loop h₀ R₁ d os w0 b1 b2 sa b t0 its n0 its' u acc na hc hl ia next
  refine headF h₀ R₁ d os w0 b1 b2 sa b t0 its n0 its' u acc na turn tu ia m p nx tk hc (by omega) h0 (by omega) (fun r tt v pa ta tu' nx' tk' hr14 h12 => ?_) (fun v pa da ta tu' nx' tk' => ?_)
  · rcases (by omega : r = 0 ∨ r = 1 ∨ r = 2 ∨ r = 3 ∨ r = 4 ∨ r = 5 ∨ r = 6 ∨ r = 7 ∨ r = 8 ∨ r = 9 ∨ r = 10 ∨ r = 11 ∨ r = 13) with rfl | rfl | rfl | rfl | rfl | rfl | rfl | rfl | rfl | rfl | rfl | rfl | rfl
    · exact wkF_zeroi_0 h₀ R₁ d os w0 b1 b2 sa b t0 its n0 its' u acc na turn tu ia m p nx tk 0 tt tu' ta v nx' tk' (fun h t R K post => whole_spec _ AX h 0 tt pa 0 520 t d os R rfl (by decide) K (by decide) (fun e => absurd e (by decide)) fun uu h' t' F => post uu h' t' F) (fun X p nx tk q1 q2 q3 q4 q5 q6 => LP m X p nx tk q1 q3 (q4.trans q5.symm) (by rw [q4]; omega) (.inl q6) (by rw [q2]; omega) (by rw [q2]; omega))
    · exact wkF_zero_0 h₀ R₁ d os w0 b1 b2 sa b t0 its n0 its' u acc na turn tu ia m p nx tk _ tt tu' ta v nx' tk' (fun h t R K post => whole_spec _ AX h 1 tt pa 0 520 t d os R rfl (by decide) K (by decide) (fun e => absurd e (by decide)) fun uu h' t' F => post uu h' t' F) (fun X p nx tk q1 q2 q3 q4 q5 q6 => LP m X p nx tk q1 q3 (q4.trans q5.symm) (by rw [q4]; omega) (.inl q6) (by rw [q2]; omega) (by rw [q2]; omega))
    · exact wkF_zero_0 h₀ R₁ d os w0 b1 b2 sa b t0 its n0 its' u acc na turn tu ia m p nx tk _ tt tu' ta v nx' tk' (fun h t R K post => whole_spec _ AX h 2 tt pa 0 520 t d os R rfl (by decide) K (by decide) (fun e => absurd e (by decide)) fun uu h' t' F => post uu h' t' F) (fun X p nx tk q1 q2 q3 q4 q5 q6 => LP m X p nx tk q1 q3 (q4.trans q5.symm) (by rw [q4]; omega) (.inl q6) (by rw [q2]; omega) (by rw [q2]; omega))
    · exact wkF_zero_0 h₀ R₁ d os w0 b1 b2 sa b t0 its n0 its' u acc na turn tu ia m p nx tk _ tt tu' ta v nx' tk' (fun h t R K post => whole_spec _ AX h 3 tt pa 0 520 t d os R rfl (by decide) K (by decide) (fun e => absurd e (by decide)) fun uu h' t' F => post uu h' t' F) (fun X p nx tk q1 q2 q3 q4 q5 q6 => LP m X p nx tk q1 q3 (q4.trans q5.symm) (by rw [q4]; omega) (.inl q6) (by rw [q2]; omega) (by rw [q2]; omega))
    · exact wkF_zero_0 h₀ R₁ d os w0 b1 b2 sa b t0 its n0 its' u acc na turn tu ia m p nx tk _ tt tu' ta v nx' tk' (fun h t R K post => whole_spec _ AX h 4 tt pa 0 520 t d os R rfl (by decide) K (by decide) (fun e => absurd e (by decide)) fun uu h' t' F => post uu h' t' F) (fun X p nx tk q1 q2 q3 q4 q5 q6 => LP m X p nx tk q1 q3 (q4.trans q5.symm) (by rw [q4]; omega) (.inl q6) (by rw [q2]; omega) (by rw [q2]; omega))
    · exact wkF_zero_0 h₀ R₁ d os w0 b1 b2 sa b t0 its n0 its' u acc na turn tu ia m p nx tk _ tt tu' ta v nx' tk' (fun h t R K post => whole_spec _ AX h 5 tt pa 0 520 t d os R rfl (by decide) K (by decide) (fun e => absurd e (by decide)) fun uu h' t' F => post uu h' t' F) (fun X p nx tk q1 q2 q3 q4 q5 q6 => LP m X p nx tk q1 q3 (q4.trans q5.symm) (by rw [q4]; omega) (.inl q6) (by rw [q2]; omega) (by rw [q2]; omega))
    · cases b2
      · exact wkF_posi_0_bf h₀ R₁ d os w0 b1 sa b t0 its n0 its' u acc na turn tu ia m p nx tk 3 tt 2 tu' ta v nx' tk' (fun h t R K post => whole_spec _ AX h 6 tt pa 0 520 t d os R rfl (by decide) K (by decide) (fun e => absurd e (by decide)) fun uu h' t' F => post uu h' t' F) (fun X p nx tk q1 q2 q3 q4 q5 q6 => LP m X p nx tk q1 q3 (q4.trans q5.symm) (by rw [q4]; omega) (.inl q6) (by rw [q2]; omega) (by rw [q2]; omega))
      · exact wkF_posi_0_bt h₀ R₁ d os w0 b1 sa b t0 its n0 its' u acc na turn tu ia m p nx tk 3 tt 2 tu' ta v nx' tk' (fun h t R K post => whole_spec _ AX h 6 tt pa 0 520 t d os R rfl (by decide) K (by decide) (fun e => absurd e (by decide)) fun uu h' t' F => post uu h' t' F) (fun X p nx tk q1 q2 q3 q4 q5 q6 => LP m X p nx tk q1 q3 (q4.trans q5.symm) (by rw [q4]; omega) (.inl q6) (by rw [q2]; omega) (by rw [q2]; omega))
    · cases b2
      · exact wkF_neg_0_bf h₀ R₁ d os w0 b1 sa b t0 its n0 its' u acc na turn tu ia m p nx tk _ tt tu' ta v nx' tk' (fun h t R K post => whole_spec _ AX h 7 tt pa 0 520 t d os R rfl (by decide) K (by decide) (fun e => absurd e (by decide)) fun uu h' t' F => post uu h' t' F) (fun X p nx tk q1 q2 q3 q4 q5 q6 => LP m X p nx tk q1 q3 (q4.trans q5.symm) (by rw [q4]; omega) (.inl q6) (by rw [q2]; omega) (by rw [q2]; omega))
      · exact wkF_neg_0_bt h₀ R₁ d os w0 b1 sa b t0 its n0 its' u acc na turn tu ia m p nx tk _ tt tu' ta v nx' tk' (fun h t R K post => whole_spec _ AX h 7 tt pa 0 520 t d os R rfl (by decide) K (by decide) (fun e => absurd e (by decide)) fun uu h' t' F => post uu h' t' F) (fun X p nx tk q1 q2 q3 q4 q5 q6 => LP m X p nx tk q1 q3 (q4.trans q5.symm) (by rw [q4]; omega) (.inl q6) (by rw [q2]; omega) (by rw [q2]; omega))
    · cases b2
      · exact wkF_pos_0_bf h₀ R₁ d os w0 b1 sa b t0 its n0 its' u acc na turn tu ia m p nx tk _ tt 6 tu' ta v nx' tk' (fun h t R K post => whole_spec _ AX h 8 tt pa 0 520 t d os R rfl (by decide) K (by decide) (fun e => absurd e (by decide)) fun uu h' t' F => post uu h' t' F) (fun X p nx tk q1 q2 q3 q4 q5 q6 => LP m X p nx tk q1 q3 (q4.trans q5.symm) (by rw [q4]; omega) (.inl q6) (by rw [q2]; omega) (by rw [q2]; omega))
      · exact wkF_pos_0_bt h₀ R₁ d os w0 b1 sa b t0 its n0 its' u acc na turn tu ia m p nx tk _ tt 6 tu' ta v nx' tk' (fun h t R K post => whole_spec _ AX h 8 tt pa 0 520 t d os R rfl (by decide) K (by decide) (fun e => absurd e (by decide)) fun uu h' t' F => post uu h' t' F) (fun X p nx tk q1 q2 q3 q4 q5 q6 => LP m X p nx tk q1 q3 (q4.trans q5.symm) (by rw [q4]; omega) (.inl q6) (by rw [q2]; omega) (by rw [q2]; omega))
    · exact wkF_none_0 h₀ R₁ d os w0 b1 b2 sa b t0 its n0 its' u acc na turn tu ia m p nx tk _ tt tu' ta v nx' tk' (fun h t R K post => whole_spec _ AX h 9 tt pa 0 520 t d os R rfl (by decide) K (by decide) (fun e => absurd e (by decide)) fun uu h' t' F => post uu h' t' F) (fun X p nx tk q1 q2 q3 q4 q5 q6 => LP m X p nx tk q1 q3 (q4.trans q5.symm) (by rw [q4]; omega) (.inr ⟨q6, by rw [q4]; omega⟩) (by rw [q2]; omega) (by rw [q2]; omega))
    · exact wkF_none_0 h₀ R₁ d os w0 b1 b2 sa b t0 its n0 its' u acc na turn tu ia m p nx tk _ tt tu' ta v nx' tk' (fun h t R K post => whole_spec _ AX h 10 tt pa 0 520 t d os R rfl (by decide) K (by decide) (fun e => absurd e (by decide)) fun uu h' t' F => post uu h' t' F) (fun X p nx tk q1 q2 q3 q4 q5 q6 => LP m X p nx tk q1 q3 (q4.trans q5.symm) (by rw [q4]; omega) (.inr ⟨q6, by rw [q4]; omega⟩) (by rw [q2]; omega) (by rw [q2]; omega))
    · exact wkF_none_0 h₀ R₁ d os w0 b1 b2 sa b t0 its n0 its' u acc na turn tu ia m p nx tk _ tt tu' ta v nx' tk' (fun h t R K post => whole_spec _ AX h 11 tt pa 0 520 t d os R rfl (by decide) K (by decide) (fun e => absurd e (by decide)) fun uu h' t' F => post uu h' t' F) (fun X p nx tk q1 q2 q3 q4 q5 q6 => LP m X p nx tk q1 q3 (q4.trans q5.symm) (by rw [q4]; omega) (.inr ⟨q6, by rw [q4]; omega⟩) (by rw [q2]; omega) (by rw [q2]; omega))
    · exact wkF_none_0 h₀ R₁ d os w0 b1 b2 sa b t0 its n0 its' u acc na turn tu ia m p nx tk _ tt tu' ta v nx' tk' (fun h t R K post => whole_spec _ AX h 13 tt pa 0 520 t d os R rfl (by decide) K (by decide) (fun e => absurd e (by decide)) fun uu h' t' F => post uu h' t' F) (fun X p nx tk q1 q2 q3 q4 q5 q6 => LP m X p nx tk q1 q3 (q4.trans q5.symm) (by rw [q4]; omega) (.inr ⟨q6, by rw [q4]; omega⟩) (by rw [q2]; omega) (by rw [q2]; omega))
  · exact wkF_pat_0 h₀ R₁ d os w0 b1 b2 sa b t0 its n0 its' u acc na turn tu ia m p nx tk pa da tu' ta nx' tk' (fun h t R K hp kp post => whole_spec _ AX h 12 0 pa da 520 t d os R rfl (by decide) K (by decide) (fun _ => ⟨hp, kp⟩) fun uu h' t' F => post uu h' t' F) (fun X p nx tk q1 q2 q3 q4 q5 q6 => LP m X p nx tk q1 q3 (q4.trans q5.symm) (by rw [q4]; omega) (.inr ⟨q6, by rw [q4]; omega⟩) (by rw [q2]; omega) (by rw [q2]; omega))
end
end Mine
end
section
namespace Mine
noncomputable def SX.retD (S : SX) (r : Result) (dt : Nat) : SX := ⟨S.c, S.κ, callK S.t r, S.p, S.T, S.m, S.nx, S.tk + dt⟩
noncomputable def SX.retP (S : SX) (r : Result) (i a : Nat) (o : Obj) (dt : Nat) : SX := ⟨S.c, S.κ, callK S.t r, S.p, S.T.put i a o, S.m, S.nx, S.tk + dt⟩
noncomputable def SX.retA (S : SX) (o : Obj) (dt : Nat) : SX := ⟨S.c, S.κ, callK S.t (.ok (.ret (.ref S.nx))), S.p, S.T.put S.m S.nx o, S.m + 1, S.nx + 1, S.tk + dt⟩
noncomputable def SX.retN (S : SX) (r : Result) (nx' t' : Nat) : SX := ⟨S.c, S.κ, callK S.t r, S.p, S.T, S.m, nx', t'⟩
noncomputable def SX.retQ (S : SX) (r : Result) (i a : Nat) (o : Obj) (nx' t' : Nat) : SX := ⟨S.c, S.κ, callK S.t r, S.p, S.T.put i a o, S.m, nx', t'⟩
noncomputable def SX.fits (S : SX) (V : VB) (c' : Code) : Bool := decide (((ctxX V.Γ S.κ S.c).enter c' none S.p).handled = none) && Nat.ble (frameCount ((ctxX V.Γ S.κ S.c).enter c' none S.p).below) 500 && Nat.ble (unitsOf ((ctxX V.Γ S.κ S.c).enter c' none S.p).below) 500
/-- a contract that may be used here -/
theorem GoX.use {V : VB} {S : SX} (c' : Code) (e : (callIs S.t, S.fits V c') = (some (c', none), true)) (h : ∀ h', Rep V.toWs V.h₀ V.M S.T S.nx h' → codeAny V.mod AX c' (fun r s' => MeanX V S.c S.κ (callK S.t r) S.p s') ⟨h', #[], V.d, S.tk, V.os⟩) : GoX V S :=
  GoX.call c' none (congrArg (·.1) e) AX rfl (congrArg (·.2) e) h
theorem GoX.useP {V : VB} {S : SX} (c' : Code) (e : (callIs S.t, S.fits V c') = (some (c', none), true)) (r : Result) (dt : Nat)
    (h : ∀ h' R, Rep V.toWs V.h₀ V.M S.T S.nx h' → R r ⟨h', #[], V.d, S.tk + dt, V.os⟩ → codeAny V.mod AX c' R ⟨h', #[], V.d, S.tk, V.os⟩) (next : GoX V (S.retD r dt)) : GoX V S :=
  GoX.use c' e fun h' D => h h' _ D (next h' D)
theorem GoX.useA {V : VB} {S : SX} (c' : Code) (o : Obj) (dt : Nat) (e : (callIs S.t, S.fits V c') = (some (c', none), true)) (hf : o.isFreed = false) (hg : V.g1 ≤ V.g2)
    (hp : (Nat.ble V.g2 S.m, (S.T.put S.m S.nx o).get S.m, S.T.get S.m) = (true, some (S.nx, o), none))
    (h : ∀ h' R, Rep V.toWs V.h₀ V.M S.T S.nx h' → R (.ok (.ret (.ref h'.objs.size))) ⟨h'.push o, #[], V.d, S.tk + dt, V.os⟩ → codeAny V.mod AX c' R ⟨h', #[], V.d, S.tk, V.os⟩) (next : GoX V (S.retA o dt)) : GoX V S := by
  refine GoX.use c' e fun h' D => h h' _ D ?_
  have h1 : (S.T.put S.m S.nx o).get S.m = some (S.nx, o) := congrArg (·.2.1) hp
  have h2 : S.T.get S.m = none := congrArg (·.2.2) hp
  have h3 : V.g2 ≤ S.m := Nat.le_of_ble_eq_true (congrArg (·.1) hp)
  have z := next (h'.push o) (D.alloc hf h3 (Nat.not_lt.mpr (Nat.le_trans hg h3)) (by rw [h1]; rfl) h2)
  show MeanX V S.c S.κ (callK S.t (.ok (.ret (.ref h'.objs.size)))) S.p _
  rw [D.size]
  exact z
theorem GoX.igt {V : VB} {S : SX} (a b : Int) (v : Bool) (e : (callIs S.t, S.fits V (callI2 "int.__gt__" a b S.t).1) = (some (callI2 "int.__gt__" a b S.t), true)) (hv : decide (b < a) = v) (next : GoX V (S.retD (.ok (.ret (.bool v))) 0)) : GoX V S :=
  GoX.useP _ e _ 0 (fun _ _ _ post => c_igt hv post) next
section
variable {prog : Program} {w : World} {A : Around} {s : Shared} {R : Result → Shared → Prop}
theorem c_ine {a b : Int} {t u : Tok} {v : Bool} (hv : (a != b) = v) (h : R (.ok (.ret (.bool v))) s) :
    codeAny (model prog w) A (.call (.builtin "int.__ne__") ⟨[.int a t, .int b u], []⟩) R s := by
  subst hv
  exact code_meets F.slot_int_ne (typeIs_int s a t) F.entry_int_ne (F.args_int_ne_2 _ _) (gives_int_ne a b t u).meets h
end
theorem GoX.ine {V : VB} {S : SX} (a b : Int) (v : Bool) (e : (callIs S.t, S.fits V (callI2 "int.__ne__" a b S.t).1) = (some (callI2 "int.__ne__" a b S.t), true)) (hv : (a != b) = v) (next : GoX V (S.retD (.ok (.ret (.bool v))) 0)) : GoX V S :=
  GoX.useP _ e _ 0 (fun _ _ _ post => c_ine hv post) next
theorem GoX.len {V : VB} {S : SX} (i l : Nat) (vs : List Value) (n : Nat) (e : (callIs S.t, S.fits V (.call (.builtin "len") ⟨[.ref l], []⟩), S.T.get i) = (some (.call (.builtin "len") ⟨[.ref l], []⟩, none), true, some (l, lst vs n))) (hs : vs.length ≤ 1000)
    (next : GoX V (S.retD (.ok (.ret (.int vs.length (S.tk + 1)))) 2)) : GoX V S := by
  have e1 : (callIs S.t, S.fits V (.call (.builtin "len") ⟨[.ref l], []⟩)) = (some (.call (.builtin "len") ⟨[.ref l], []⟩, none), true) := Prod.ext (congrArg (·.1) e) (congrArg (·.2.1) e)
  refine GoX.useP _ e1 (.ok (.ret (.int vs.length (S.tk + 1)))) 2 (fun h' R D post => c_len (lst_is (D.own i l (lst vs n) (congrArg (·.2.2) e))) ?_ post) next
  show (vs.length : Int) < 2 ^ 63
  omega
theorem GoX.append {V : VB} {S : SX} (i l : Nat) (vs : List Value) (n : Nat) (e : (callIs S.t, S.fits V (.call (.builtin "list.append") ⟨[.ref l, argOf S.t 1], []⟩), S.T.get i) = (some (.call (.builtin "list.append") ⟨[.ref l, argOf S.t 1], []⟩, none), true, some (l, lst vs n))) (hsz : vs.length ≤ 1000) (hw : i < V.g1 ∨ V.g2 ≤ i)
    (next : ∀ x, GoX V (S.retP (.ok (.ret .none)) i l (lst (vs ++ [x]) (n + 1)) 0)) : GoX V S := by
  have hi : S.T.get i = some (l, lst vs n) := congrArg (·.2.2) e
  have e1 : (callIs S.t, S.fits V (.call (.builtin "list.append") ⟨[.ref l, argOf S.t 1], []⟩)) = (some (.call (.builtin "list.append") ⟨[.ref l, argOf S.t 1], []⟩, none), true) := Prod.ext (congrArg (·.1) e) (congrArg (·.2.1) e)
  refine GoX.use _ e1 fun h1 D => ?_
  refine c_append (D.own i l _ hi) (by rw [sizeLine_eq]; exact Nat.le_trans hsz (by decide)) fun h2 h3 h4 F => ?_
  exact GoX.from S.m (next _) ((D.step1 hi F h3 hw).at (h4.trans D.size))
theorem GoX.strne {V : VB} {S : SX} (x : Str) (e : (callIs S.t, S.fits V (.call (.builtin "str.__ne__") ⟨[.str x (tokOf (argOf S.t 0)), .str x (tokOf (argOf S.t 1))], []⟩)) = (some (.call (.builtin "str.__ne__") ⟨[.str x (tokOf (argOf S.t 0)), .str x (tokOf (argOf S.t 1))], []⟩, none), true)) (next : GoX V (S.retD (.ok (.ret (.bool false))) 0)) : GoX V S :=
  GoX.useP _ e _ 0 (fun _ _ _ post => c_strne post) next
/-- [v] * k -/
noncomputable def mulC (i k : Nat) (S : SX) : Code := .call (.builtin "list.__mul__") ⟨[.ref (addrAt S.T i), .int (.ofNat k) (tokOf (argOf S.t 1))], []⟩
theorem GoX.lmul {V : VB} {S : SX} (i k n : Nat) (x : Str) (e : (callIs S.t, S.fits V (mulC i k S), S.T.get i) = (some (mulC i k S, none), true, some (addrAt S.T i, lst [.str x (tokOf ((seqAt (objAt S.T i)).headD .none))] n))) (hk : k ≤ 10000) (hg : V.g1 ≤ V.g2)
    (hp : ∀ o, (Nat.ble V.g2 S.m, (S.T.put S.m S.nx o).get S.m, S.T.get S.m) = (true, some (S.nx, o), none)) (next : ∀ t, GoX V (S.retA (lst (List.replicate k (.str x t)) 0) 0)) : GoX V S := by
  have e1 : (callIs S.t, S.fits V (mulC i k S)) = (some (mulC i k S, none), true) := Prod.ext (congrArg (·.1) e) (congrArg (·.2.1) e)
  exact GoX.useA _ (lst (List.replicate k (.str x _)) 0) 0 e1 rfl hg (hp _) (fun h' R D post => c_lmul (D.own i _ _ (congrArg (·.2.2) e)) hk post) (next _)
theorem eqVs_rep (x y : Value) (h : eqV x y = true) : ∀ k, eqVs (List.replicate k x) (List.replicate k y) = true
  | 0 => rfl
  | k + 1 => by rw [List.replicate_succ, List.replicate_succ, eqVs, h, eqVs_rep x y h k]; rfl
theorem all_rep (x : Value) (h : strV x = true) : ∀ k, (List.replicate k x).all strV = true
  | 0 => rfl
  | k + 1 => by rw [List.replicate_succ, List.all_cons, h, all_rep x h k]; rfl
theorem GoX.lne {V : VB} {S : SX} (i j k n n' : Nat) (x : Str) (t t' : Nat) (e : (callIs S.t, S.fits V (.call (.builtin "list.__ne__") ⟨[.ref (addrAt S.T i), .ref (addrAt S.T j)], []⟩), S.T.get i, S.T.get j) = (some (.call (.builtin "list.__ne__") ⟨[.ref (addrAt S.T i), .ref (addrAt S.T j)], []⟩, none), true, some (addrAt S.T i, lst (List.replicate k (.str x t)) n), some (addrAt S.T j, lst (List.replicate k (.str x t')) n')))
    (next : GoX V (S.retD (.ok (.ret (.bool false))) 0)) : GoX V S := by
  have e1 : (callIs S.t, S.fits V (.call (.builtin "list.__ne__") ⟨[.ref (addrAt S.T i), .ref (addrAt S.T j)], []⟩)) = (some (.call (.builtin "list.__ne__") ⟨[.ref (addrAt S.T i), .ref (addrAt S.T j)], []⟩, none), true) := Prod.ext (congrArg (·.1) e) (congrArg (·.2.1) e)
  refine GoX.useP _ e1 (.ok (.ret (.bool false))) 0 (fun h' R D post => c_lne (D.own i _ _ (congrArg (·.2.2.1) e)) (D.own j _ _ (congrArg (·.2.2.2) e)) rfl rfl (all_rep _ rfl k) (all_rep _ rfl k) ?_) next
  rw [eqVs_rep _ _ (by simp [eqV]) k]
  exact post
theorem GoX.range {V : VB} {S : SX} (i it j m : Nat) (e : (callIs S.t, S.fits V (.call (.builtin "range_iterator.__next__") ⟨[.ref it], []⟩), S.T.get i) = (some (.call (.builtin "range_iterator.__next__") ⟨[.ref it], []⟩, none), true, some (it, rngI j (m + 1)))) (hw : i < V.g1 ∨ V.g2 ≤ i)
    (next : GoX V (S.retP (.ok (.ret (.int (.ofNat j) S.tk))) i it (rngI (j + 1) m) 1)) : GoX V S := by
  have hi : S.T.get i = some (it, rngI j (m + 1)) := congrArg (·.2.2) e
  refine GoX.use _ (Prod.ext (congrArg (·.1) e) (congrArg (·.2.1) e)) fun h1 D => ?_
  refine c_range (D.own i it _ hi) fun h2 h3 h4 F => ?_
  exact GoX.from S.m next ((D.step1 hi F h3 hw).at (h4.trans D.size))
theorem GoX.draw {V : VB} {S : SX} (i j fa ca : Nat) (turn : Int) (tu n1 n2 many : Nat) (vs : List Value) (hV : (V.prog, V.kt) = (PySem.Challenge.pw_pf0369_01, kq V.w.params))
    (e : (callIs S.t, S.fits V (.call (.ref 326) ⟨[.ref fa, .int (.ofNat (many + 1)) (tokOf (argOf S.t 1))], []⟩), S.T.get i, S.T.get j) = (some (.call (.ref 326) ⟨[.ref fa, .int (.ofNat (many + 1)) (tokOf (argOf S.t 1))], []⟩, none), true, some (fa, lst [.ref ca, .int turn tu] n1), some (ca, lst vs n2))) (hij : i ≠ j) (hw : i < V.g1 ∨ V.g2 ≤ i)
    (hv : Cells vs) (hl : vs.length ≤ 63) (h0 : 0 ≤ turn) (h1 : turn ≤ 1000)
    (next : ∀ r tr tu' nx' t', r < many + 1 → GoX V (S.retQ (.ok (.ret (.int (.ofNat r) tr))) i fa (lst [.ref ca, .int (turn + 1) tu'] n1) nx' t')) : GoX V S := by
  have hprog : V.prog = PySem.Challenge.pw_pf0369_01 := congrArg (·.1) hV
  have hkt : V.kt = kq V.w.params := congrArg (·.2) hV
  have hi : S.T.get i = some (fa, lst [.ref ca, .int turn tu] n1) := congrArg (·.2.2.1) e
  have hj : S.T.get j = some (ca, lst vs n2) := congrArg (·.2.2.2) e
  refine GoX.use _ (Prod.ext (congrArg (·.1) e) (congrArg (·.2.1) e)) fun h' D => ?_
  have K : Known V.w.params h' := fun a o z => D.known a o (hkt ▸ z)
  have kf := D.off i _ _ hi
  have kc := D.off j _ _ hj
  rw [hkt] at kf kc
  have H := next_spec V.w AX h' fa ca turn many tu (tokOf (argOf S.t 1)) n1 n2 S.tk vs V.d V.os (fun r s' => MeanX V S.c S.κ (callK S.t r) S.p s') rfl (by decide) K (D.own i _ _ hi) (D.own j _ _ hj)
    (fun q => hij (D.one i j ca _ _ (q ▸ hi) hj)) kf kc hv hl h0 h1 (fun r tr tu' h2 t2 hr hf F => GoX.from S.m (next r tr tu' _ t2 hr) (D.step1 hi F hf hw))
  rw [← hprog] at H
  exact H
end Mine
end
section
namespace Mine
noncomputable def VB.more (V : VB) (l : List (Nat × Obj)) : VB := ⟨⟨⟨V.prog, V.w, V.A₀, V.dm, V.g1, V.g2, V.kt, l⟩, V.Γ⟩, V.h₀, V.M, V.R₀, V.d, V.os⟩
theorem endX_more (V : VB) (l : List (Nat × Obj)) : ∀ κ, endX (V.more l) κ = endX V κ
  | [] => rfl
  | (c, hd, p, k) :: κ => by
    funext r s
    show Sem.wp V.mod (ctxX V.Γ κ c) (k r) (Sem.finPost V.mod (ctxX V.Γ κ c) (endX (V.more l) κ)) (fun e _ s' => endX (V.more l) κ (.error e) s') p s = _
    rw [endX_more V l κ]
    rfl
theorem meanX_more (V : VB) (l : List (Nat × Obj)) (c : Code) (κ : KX) (t : Sem PySem.Fin) (p : Pos) (s : Shared) : MeanX (V.more l) c κ t p s = MeanX V c κ t p s := by
  show Sem.wp V.mod (ctxX V.Γ κ c) t (Sem.finPost V.mod (ctxX V.Γ κ c) (endX (V.more l) κ)) (fun e _ s' => endX (V.more l) κ (.error e) s') p s = _
  rw [endX_more V l κ]
  rfl
theorem GoX.less {V : VB} {S : SX} (l : List (Nat × Obj)) (hx : V.ex = []) (h : GoX V S) : GoX (V.more l) S := by
  intro h' D
  rw [meanX_more]
  exact h h' ⟨D.size, D.own, D.one, D.off, D.known, D.may, D.new, D.keep, D.more, fun p hp => by rw [hx] at hp; cases hp⟩
theorem ptSize_bd : ∀ (ps : List Pt), (∀ p ∈ ps, PtS p) → ∀ x : Int, 0 ≤ x → 0 ≤ ptSize x ps ∧ ptSize x ps ≤ x * 5 ^ ps.length
  | [], _, x, hx => ⟨hx, by simp [ptSize]⟩
  | p :: ps, h, x, hx => by
    obtain ⟨_, h1, h5⟩ := h p (by simp)
    have z := ptSize_bd ps (fun q hq => h q (List.mem_cons_of_mem _ hq)) (x * (ptH p - ptL p + 1)) (Int.mul_nonneg hx (by omega))
    refine ⟨z.1, Int.le_trans z.2 ?_⟩
    have h2 : x * (ptH p - ptL p + 1) ≤ x * 5 := Int.mul_le_mul_of_nonneg_left h5 hx
    have h3 := Int.mul_le_mul_of_nonneg_right h2 (show (0 : Int) ≤ 5 ^ ps.length from Int.pow_nonneg (by decide))
    rw [List.length_cons, Int.pow_succ, Int.mul_comm (5 ^ ps.length) 5, ← Int.mul_assoc]
    exact h3
theorem ptSize_nat (ps : List Pt) (h3 : ps.length ≤ 3) (h : ∀ p ∈ ps, PtS p) : ∃ k : Nat, ptSize 1 ps = .ofNat k ∧ k ≤ 1000 := by
  obtain ⟨a, b⟩ := ptSize_bd ps h 1 (by decide)
  obtain ⟨k, hk⟩ := Int.eq_ofNat_of_zero_le a
  refine ⟨k, hk, ?_⟩
  have : (5 : Int) ^ ps.length ≤ 125 := by
    rcases (by omega : ps.length = 0 ∨ ps.length = 1 ∨ ps.length = 2 ∨ ps.length = 3) with e | e | e | e <;> rw [e] <;> decide
  omega
theorem size_eq : ∀ (bs : List Bd) (ps : List Pt) (x : Int), bs.map (fun b => (b.lo, b.hi)) = ps.map (fun p => (ptL p, ptH p)) → bdSize x bs = ptSize x ps
  | [], [], _, _ => rfl
  | [], _ :: _, _, e => by cases e
  | _ :: _, [], _, e => by cases e
  | b :: bs, p :: ps, x, e => by
    rw [List.map_cons, List.map_cons] at e
    injection e with e1 e2
    have h1 : b.lo = ptL p := congrArg (·.1) e1
    have h2 : b.hi = ptH p := congrArg (·.2) e1
    rw [bdSize, ptSize, h1, h2]
    exact size_eq bs ps _ e2
noncomputable def SX.retU (S : SX) (ta i fa : Nat) (o o2 : Obj) (nx' t' : Nat) : SX := ⟨S.c, S.κ, callK S.t (.ok (.ret (.ref ta))), S.p, (S.T.put i fa o).put S.m ta o2, S.m + 1, nx', t'⟩
theorem GoX.proto {V : VB} {S : SX} (i j fa ca : Nat) (turn : Int) (tu n1 n2 : Nat) (vs : List Value) (hV : (V.prog, V.kt) = (PySem.Challenge.pw_pf0369_01, kq V.w.params))
    (e : (callIs S.t, S.fits V (.call (.ref 340) ⟨[.ref fa], []⟩), S.T.get i, S.T.get j) = (some (.call (.ref 340) ⟨[.ref fa], []⟩, none), true, some (fa, lst [.ref ca, .int turn tu] n1), some (ca, lst vs n2))) (hij : i ≠ j) (hw : i < V.g1 ∨ V.g2 ≤ i) (hg : V.g1 ≤ V.g2)
    (hp : ∀ o o2 ta, (Nat.ble V.g2 S.m, ((S.T.put i fa o).put S.m ta o2).get S.m, (S.T.put i fa o).get S.m) = (true, some (ta, o2), none))
    (hv : Cells vs) (hl : vs.length ≤ 63) (h0 : 0 ≤ turn) (h1 : turn ≤ 800)
    (next : ∀ (ps : List Pt) (k tx tz ta : Nat) (turn' : Int) (tu' nx' t' : Nat), ps ≠ [] → ps.length ≤ 3 → (∀ p ∈ ps, PtS p) → ptSize 1 ps = .ofNat k → k ≤ 1000 → turn ≤ turn' → turn' ≤ turn + 10 →
      GoX V (S.retU ta i fa (lst [.ref ca, .int turn' tu'] n1) (tup [.str ⟨⟨joinC 44 (ps.map ptT)⟩⟩ tx, .int (.ofNat k) tz]) nx' t')) : GoX V S := by
  have hprog : V.prog = PySem.Challenge.pw_pf0369_01 := congrArg (·.1) hV
  have hkt : V.kt = kq V.w.params := congrArg (·.2) hV
  have hi : S.T.get i = some (fa, lst [.ref ca, .int turn tu] n1) := congrArg (·.2.2.1) e
  have hj : S.T.get j = some (ca, lst vs n2) := congrArg (·.2.2.2) e
  refine GoX.use _ (Prod.ext (congrArg (·.1) e) (congrArg (·.2.1) e)) fun h' D => ?_
  have K : Known V.w.params h' := fun a o z => D.known a o (hkt ▸ z)
  have kf := D.off i _ _ hi
  have kc := D.off j _ _ hj
  rw [hkt] at kf kc
  have H := proto_spec V.w AX h' fa ca turn tu n1 n2 S.tk vs V.d V.os (fun r s' => MeanX V S.c S.κ (callK S.t r) S.p s') rfl (by decide) K (D.own i _ _ hi) (D.own j _ _ hj)
    (fun q => hij (D.one i j ca _ _ (q ▸ hi) hj)) kf kc hv hl h0 h1 (fun ps tx tz ta turn' tu' h2 t2 hne h3 hps ht1 ht2 hta kta hta2 hfa F => by
      obtain ⟨k, hk, hk2⟩ := ptSize_nat ps h3 hps
      rw [hk] at hta2
      have D1 := D.step1 hi F hfa hw
      have U1 := (D.under).put (i := i) (b := fa) (o' := lst [.ref ca, .int turn' tu'] n1) hi
      rw [D.size] at hta
      have hp' := hp (lst [.ref ca, .int turn' tu'] n1) (tup [.str ⟨⟨joinC 44 (ps.map ptT)⟩⟩ tx, .int (.ofNat k) tz]) ta
      have D2 := (D.fresh D1 U1 (b := ta) (m := S.m) (o := tup [.str ⟨⟨joinC 44 (ps.map ptT)⟩⟩ tx, .int (.ofNat k) tz]) hta hta hta2 hg (Nat.le_of_ble_eq_true (congrArg (·.1) hp')) (by rw [show LT.get _ S.m = _ from congrArg (·.2.1) hp']; rfl) (congrArg (·.2.2) hp')).1
      exact GoX.from (S.m + 1) (next ps k tx tz ta turn' tu' _ t2 hne h3 hps hk hk2 ht1 ht2) D2)
  rw [← hprog] at H
  exact H
theorem GoX.read {V : VB} {S : SX} (ps : List Pt) (hV : (V.prog, V.kt, V.ex) = (PySem.Challenge.pw_pf0369_01, kq V.w.params, []))
    (e : (callIs S.t, S.fits V (.call (.ref 231) ⟨[.str ⟨⟨joinC 44 (ps.map ptT)⟩⟩ (tokOf (argOf S.t 0)), .int 32 (tokOf (argOf S.t 1))], []⟩)) = (some (.call (.ref 231) ⟨[.str ⟨⟨joinC 44 (ps.map ptT)⟩⟩ (tokOf (argOf S.t 0)), .int 32 (tokOf (argOf S.t 1))], []⟩, none), true))
    (hne : ps ≠ []) (h3 : ps.length ≤ 3) (hps : ∀ p ∈ ps, PtOk p)
    (next : ∀ (ba n : Nat) (bs : List Bd) (nx' t' : Nat), (((ba, lst (bdRefs bs) n) :: bdObjs bs).map (·.1)).Nodup → bs.map (fun b => (b.lo, b.hi)) = ps.map (fun p => (ptL p, ptH p)) → (∀ p ∈ (ba, lst (bdRefs bs) n) :: bdObjs bs, (kq V.w.params).get p.1 = none) →
      GoX (V.more ((ba, lst (bdRefs bs) n) :: bdObjs bs)) (S.retN (.ok (.ret (.ref ba))) nx' t')) : GoX V S := by
  have hprog : V.prog = PySem.Challenge.pw_pf0369_01 := congrArg (·.1) hV
  have hkt : V.kt = kq V.w.params := congrArg (·.2.1) hV
  refine GoX.use _ e fun h' D => ?_
  have K : Known V.w.params h' := fun a o z => D.known a o (hkt ▸ z)
  have H := read_spec V.w AX h' ps (tokOf (argOf S.t 0)) (tokOf (argOf S.t 1)) S.tk V.d V.os (fun r s' => MeanX V S.c S.κ (callK S.t r) S.p s') rfl (by decide) K hne h3 hps (fun h2 t2 ba n bs F hall hnd hmap => by
    have D' := D.step F rfl
    have z := next ba n bs h2.objs.size t2 hnd hmap (fun p hp => (hall p hp).2.1) h2 ⟨D'.size, D'.own, D'.one, D'.off, D'.known, D'.may, D'.new, D'.keep, D'.more, fun p hp => ⟨(hall p hp).1, fun i a o ei q => by
      have := (hall p hp).2.2
      rw [q, D.own i a o ei] at this
      cases this⟩⟩
    rw [meanX_more] at z
    exact z)
  rw [← hprog] at H
  exact H
theorem GoX.size {V : VB} {S : SX} (ba n k : Nat) (bs : List Bd) (hV : (V.prog, V.kt, V.ex) = (PySem.Challenge.pw_pf0369_01, kq V.w.params, (ba, lst (bdRefs bs) n) :: bdObjs bs))
    (e : (callIs S.t, S.fits V (.call (.ref 238) ⟨[.ref ba], []⟩)) = (some (.call (.ref 238) ⟨[.ref ba], []⟩, none), true))
    (h1 : 1 ≤ bs.length) (h3 : bs.length ≤ 3) (hb : ∀ b ∈ bs, Builtin.Int.intBits (b.hi - b.lo + 1) ≤ 64) (hnd : (((ba, lst (bdRefs bs) n) :: bdObjs bs).map (·.1)).Nodup) (hkq : ∀ p ∈ (ba, lst (bdRefs bs) n) :: bdObjs bs, (kq V.w.params).get p.1 = none) (hk : bdSize 1 bs = .ofNat k) {P : Params} (hk2 : V.kt.get 352 = some (k352 P))
    (next : ∀ u q t', GoX V (S.retN (.ok (.ret (.int (.ofNat k) u))) (q + 353) t')) : GoX V S := by
  have hprog : V.prog = PySem.Challenge.pw_pf0369_01 := congrArg (·.1) hV
  have hkt : V.kt = kq V.w.params := congrArg (·.2.1) hV
  have hex : V.ex = (ba, lst (bdRefs bs) n) :: bdObjs bs := congrArg (·.2.2) hV
  refine GoX.use _ e fun h' D => ?_
  have K : Known V.w.params h' := fun a o z => D.known a o (hkt ▸ z)
  have H := size_spec V.w AX h' ba n S.tk bs V.d V.os (fun r s' => MeanX V S.c S.κ (callK S.t r) S.p s') rfl (by decide) K h1 h3 hb (fun p hp => ⟨(D.xs p (hex ▸ hp)).1, hkq p hp⟩) hnd (fun u h2 t2 F => by
    rw [hk]
    have D' := D.step F rfl
    have hb : 352 < h2.objs.size := Heap.lt_size (D'.known _ _ hk2)
    obtain ⟨q, hq⟩ : ∃ q, h2.objs.size = q + 353 := ⟨h2.objs.size - 353, by omega⟩
    rw [hq] at D'
    exact GoX.from S.m (next u q t2) D')
  rw [← hprog] at H
  exact H
end Mine
end
section
namespace Mine
noncomputable def sKept : Str := ⟨⟨[107, 101, 112, 116]⟩⟩
noncomputable def pF2 : Pos := ⟨207, 16, 207, 45⟩
structure X2 where
  lc : Nat
  ra : Nat
  k1 : Nat
  v1 : Value
  k2 : Nat
  v2 : Value
  sl : Array (Option Value)
  cv : Value
  mi : Int
  tmi : Nat
  md : Int
  tmd : Nat
  hs : List Value
  nh : Nat
  turn : Int
  tu : Nat
  ia : Nat
  j : Nat
  m : Nat
  lc2 : Nat
  x0 : Value
  tq : Nat
  rest : List Value
  tv : Value
  k3 : Nat
  v3 : Value
  k4 : Nat
  v4 : Value
  k5 : Nat
  v5 : Value
noncomputable def fr8 (P : Params) (sa t0 b u : Nat) (X : X2) : Obj :=
  ⟨.type "frame", none, .dict ⟨[⟨kh P sScript, .str sScript t0, .ref sa⟩, ⟨kh P ⟨⟨[102, 101, 101, 100]⟩⟩, .str ⟨⟨[102, 101, 101, 100]⟩⟩ (u+69), .ref (b+11)⟩, ⟨kh P ⟨⟨[114, 111, 119, 115]⟩⟩, .str ⟨⟨[114, 111, 119, 115]⟩⟩ (u+70), .ref X.ra⟩,
    ⟨kh P sTurn, .str sTurn X.k1, X.v1⟩, ⟨kh P sNumber, .str sNumber X.k2, X.v2⟩, ⟨kh P sSize, .str sSize X.k3, X.v3⟩, ⟨kh P sFound, .str sFound X.k4, X.v4⟩, ⟨kh P sKept, .str sKept X.k5, X.v5⟩]⟩ 8, X.sl⟩
/-- the ledgers of the second loop: at its first turn, later, behind it -/
noncomputable def TM (D : Dw) (X : X2) (tab : List Value) (fr : Obj) (tx : Option Value) (more : List (Nat × Obj)) : LT :=
  LT.of 0 ([(349, tabO tab), (D.sa, lst D.its D.n0), (D.b, fr), (D.b + 1, cellO tx), (D.b + 2, cellO (some X.cv)), (D.b + 3, cellO (some (.ref (D.b + 13)))),
    (D.b + 7, lst D.acc D.na), (D.b + 11, lst [.ref (D.b + 7), .int X.turn X.tu] 0), (D.b + 12, wD D.w.params D.b D.u (.int X.mi X.tmi) (.int X.md X.tmd)), (D.b + 13, instW D.b),
    (D.b + 27, lst X.hs X.nh), (D.b + 34, stD D.w.params D.u)] ++ more) .nil
noncomputable def TF2 (D : Dw) (X : X2) : LT := TM D X [.int 204 0, .int 22 0, .ref X.lc] (fr5 D.w.params D.sa D.t0 D.b D.u (.ref X.ra) X.k1 X.v1 X.k2 X.v2 X.sl) none [(X.ia, rngI X.j X.m)]
noncomputable def TU2 (D : Dw) (X : X2) : LT := TM D X [.int 204 0, .int 22 0, .ref X.lc, .int 209 0, .int 54 0, .ref X.lc2] (fr8 D.w.params D.sa D.t0 D.b D.u X) (some X.tv) [(X.ia, rngI X.j X.m), (X.lc2, codeL X.x0 X.tq X.rest)]
noncomputable def TE2 (D : Dw) (X : X2) : LT := TM D X [.int 204 0, .int 22 0, .ref X.lc, .int 209 0, .int 54 0, .ref X.lc2] (fr8 D.w.params D.sa D.t0 D.b D.u X) (some X.tv) []
noncomputable def V2 (D : Dw) (ia : Nat) : VX := ⟨wsL D.w, ΓF D.sa D.b (cF 4 (.ref ia) D.b) pF2⟩
noncomputable def s2F (D : Dw) (X : X2) (p : Pos) (nx tk : Nat) : SX := ⟨cF 4 (.ref X.ia) D.b, [], dX (cF 4 (.ref X.ia) D.b), p, TF2 D X, 13, nx, tk⟩
noncomputable def s2U (D : Dw) (X : X2) (p : Pos) (nx tk : Nat) : SX := ⟨cF 4 (.ref X.ia) D.b, [], dX (cF 4 (.ref X.ia) D.b), p, TU2 D X, 14, nx, tk⟩
noncomputable def tokI : Value → Int
  | .int k _ => k
  | _ => 0
/-- what the ledger says behind a turn -/
noncomputable def X2.of (X : X2) (jl : Nat) (turn : Int) (tu : Nat) (hs : List Value) (nh m : Nat) (T : LT) : X2 :=
  { lc := X.lc, ra := X.ra, k1 := kTok (objAt T 2) 3, v1 := vAt (objAt T 2) 3, k2 := X.k2, v2 := X.v2, sl := (objAt T 2).slots, cv := X.cv, mi := X.mi, tmi := X.tmi, md := X.md + 1, tmd := tokOf (vAt (objAt T 8) 20), hs, nh, turn, tu, ia := X.ia, j := X.j + 1, m,
    lc2 := addrAt T jl, x0 := (seqAt (objAt T jl)).headD .none, tq := tokS ((seqAt (objAt T jl)).tail.headD .none), rest := (seqAt (objAt T jl)).drop 2, tv := cellAt (objAt T 3),
    k3 := kTok (objAt T 2) 5, v3 := vAt (objAt T 2) 5, k4 := kTok (objAt T 2) 6, v4 := vAt (objAt T 2) 6, k5 := kTok (objAt T 2) 7, v5 := vAt (objAt T 2) 7 }
theorem bs_bits : ∀ (bs : List Bd) (ps : List Pt), bs.map (fun b => (b.lo, b.hi)) = ps.map (fun p => (ptL p, ptH p)) → (∀ p ∈ ps, PtS p) → ∀ b ∈ bs, Builtin.Int.intBits (b.hi - b.lo + 1) ≤ 64
  | [], _, _, _, b, hb => by cases hb
  | _ :: _, [], e, _, _, _ => by cases e
  | c :: bs, p :: ps, e, h, b, hb => by
    rw [List.map_cons, List.map_cons] at e
    injection e with e1 e2
    rcases List.mem_cons.mp hb with rfl | hb
    · have h1 : b.lo = ptL p := congrArg (·.1) e1
      have h2 : b.hi = ptH p := congrArg (·.2) e1
      obtain ⟨_, h3, h4⟩ := h p (by simp)
      rw [h1, h2]
      exact bits_le (by omega) (by omega)
    · exact bs_bits bs ps e2 (fun q hq => h q (List.mem_cons_of_mem _ hq)) b hb
section
variable (h₀ : Heap) (R₁ : Result → Shared → Prop) (d : Drawn) (os : OsState) (w0 : World) (b1 b2 : Bool) (sa b t0 : Nat) (its : List Value) (n0 : Nat) (its' : List Value) (u : Nat) (acc : List Value) (na : Nat)
theorem turn2F (lc ra k1 : Nat) (v1 : Value) (k2 : Nat) (v2 : Value) (sl : Array (Option Value)) (cv : Value) (mi : Int) (tmi : Nat) (md : Int) (tmd : Nat) (hs : List Value) (nh : Nat) (turn : Int) (tu ia j m lc2 : Nat) (x0 : Value) (tq : Nat) (rest : List Value) (tv : Value) (k3 : Nat) (v3 : Value) (k4 : Nat) (v4 : Value) (k5 : Nat) (v5 : Value) (p : Pos) (nx tk : Nat) (hc : Cells acc) (hl : acc.length ≤ 63) (h0 : 0 ≤ turn) (h1 : turn ≤ 700) (hh : hs.length ≤ 10) (hsl : sl = ⟨[]⟩ ∨ sl = slS b)
    (next : ∀ (X : X2) (p : Pos) (nx tk : Nat), X.ia = ia → X.m = m → X.mi = mi → turn ≤ X.turn → X.turn ≤ turn + 10 → X.hs.length ≤ hs.length + 1 → (X.sl = ⟨[]⟩ ∨ X.sl = slS b) → GoX (vb (V2 ⟨⟨w0, b1, b2, sa, b, t0, its, n0, [], its'⟩, u, acc, na⟩ ia) h₀ R₁ d os) (s2U ⟨⟨w0, b1, b2, sa, b, t0, its, n0, [], its'⟩, u, acc, na⟩ X p nx tk)) :
    GoX (vb (V2 ⟨⟨w0, b1, b2, sa, b, t0, its, n0, [], its'⟩, u, acc, na⟩ ia) h₀ R₁ d os) (s2F ⟨⟨w0, b1, b2, sa, b, t0, its, n0, [], its'⟩, u, acc, na⟩ ⟨lc, ra, k1, v1, k2, v2, sl, cv, mi, tmi, md, tmd, hs, nh, turn, tu, ia, j, m + 1, lc2, x0, tq, rest, tv, k3, v3, k4, v4, k5, v5⟩ p nx tk) := by
  cases b1
  · refine sx (by show 1 ≤ 2; decide) 2 13 (by kernel_rfl) (by kernel_rfl) ?_
    refine GoX.range 12 ia j m (by kernel_rfl) (.inr (by show 2 ≤ 12; decide)) ?_
    refine sx (by show 1 ≤ 2; decide) 14 402654723 (by kernel_rfl) (by kernel_rfl) ?_
    refine GoX.proto 7 6 (b + 11) (b + 7) turn tu 0 na acc (by kernel_rfl) (by kernel_rfl) (by decide) (.inr (by show 2 ≤ 7; decide)) (by show 1 ≤ 2; decide) (fun o o2 ta => (by kernel_rfl)) hc hl h0 (by omega) fun ps k tx tz ta turn' tu' nx1 tk1 hne h3 hps hk hk2 ht1 ht2 => ?_
    refine sx (by show 1 ≤ 2; decide) 84 743691123206088853655468870467092846167639047497997338533430230357159202073328888254241066730992277364831526843824746273806 (by kernel_rfl) (by kernel_rfl) ?_
    refine GoX.len 10 (b + 27) hs nh (by kernel_rfl) (by omega) ?_
    refine sx (by show 1 ≤ 2; decide) 322 6286207251902671467616734174916788068620233912118485118042712314573472341715042077029894710892682210178615700120466226465305890045911073523423931113654392319175805436108967828233015937816222926222714481684707450019608009359221337440459013174288142616676116833785078720248750382931641372238822143093880931346425781594889321903099047946447054121790704848721427473901194363247514211142756026548224 (by kernel_rfl) (by kernel_rfl) ?_
    refine GoX.read ps (by kernel_rfl) (by kernel_rfl) hne h3 (fun q hq => (hps q hq).1) fun ba n bs nx2 tk2 hnd hmap hkq => ?_
    have hbl : bs.length = ps.length := by have := congrArg List.length hmap; simpa using this
    have hb1 : 1 ≤ bs.length := by rw [hbl]; exact List.length_pos_iff.mpr hne
    have hb3 : bs.length ≤ 3 := by omega
    have hbk : bdSize 1 bs = .ofNat k := (size_eq bs ps 1 hmap).trans hk
    have hbb : ∀ b ∈ bs, Builtin.Int.intBits (b.hi - b.lo + 1) ≤ 64 := bs_bits bs ps hmap hps
    refine sx (by show 1 ≤ 2; decide) 67 15914404392319191496690046474250036453552937935659181618392645890548664398681172821427234 (by kernel_rfl) (by kernel_rfl) ?_
    refine GoX.size ba n k bs (by kernel_rfl) (by kernel_rfl) hb1 hb3 hbb hnd hkq hbk (P := (Dw.toLw ⟨⟨w0, false, b2, sa, b, t0, its, n0, [], its'⟩, u, acc, na⟩).w.params) (by kernel_rfl) fun u1 nx3 tk3 => ?_
    refine sx (by show 1 ≤ 2; decide) 22 2920679386504749787495580391445536 (by kernel_rfl) (by kernel_rfl) ?_
    by_cases hgt : mi < (k : Int)
    · refine GoX.igt (.ofNat k) mi true (by kernel_rfl) (decide_eq_true hgt) ?_
      rcases hsl with rfl | rfl
      · refine sx (by show 1 ≤ 2; decide) 417 490088508884251102250936992790585503137547854851586444174364703080288883236776218017008560846907685374847732858742346404723359927741587360701585503055701798324967632520712232186222903104811204359331581792798551356139757405012148567058151806347408659149513130642016786583946260590068655805118438953164993652004110073860836755366612266651550585382451959318206536166434116579865548902674676416856898070104496540596504338346989925327341942872029970019987108840065522562252434617148247330217847143735175177006336542584798333912789806521329360252371478285885987197687377294598940219378886224426449552498970035342542553154168584996729618794615555751362740673763435173427148753751840282116096 (by kernel_rfl) (by kernel_rfl) ?_
        refine GoX.igt (.ofNat k) mi true (by kernel_rfl) (decide_eq_true hgt) ?_
        refine sx (by show 1 ≤ 2; decide) 6 3 (by kernel_rfl) (by kernel_rfl) ?_
        refine GoX.ine 23 23 false (by kernel_rfl) (by decide) ?_
        refine sx (by show 1 ≤ 2; decide) 23 765638577095901128293241426135091773440 (by kernel_rfl) (by kernel_rfl) ?_
        refine GoX.len 10 (b + 27) hs nh (by kernel_rfl) (by omega) ?_
        refine sx (by show 1 ≤ 2; decide) 5 3 (by kernel_rfl) (by kernel_rfl) ?_
        refine GoX.ine hs.length hs.length false (by kernel_rfl) (by simp) ?_
        refine sx (by show 1 ≤ 2; decide) 1 0 (by kernel_rfl) (by kernel_rfl) ?_
        refine GoX.less _ rfl ?_
        refine GoX.cutF [0, 1, 2, 3, 4, 5, 6, 7, 8, 9, 10, 11, 12, 23] (fun S => s2U ⟨⟨w0, false, b2, sa, b, t0, its, n0, [], its'⟩, u, acc, na⟩ (X2.of ⟨lc, ra, k1, v1, k2, v2, ⟨[]⟩, cv, mi, tmi, md, tmd, hs, nh, turn, tu, ia, j, m + 1, lc2, x0, tq, rest, tv, k3, v3, k4, v4, k5, v5⟩ 23 turn' tu' (hs) (nh) m S.T) S.p S.nx S.tk) (by kernel_rfl) (by kernel_rfl) (by kernel_rfl) (by decide) (by kernel_rfl) ?_
        refine next _ _ _ _ rfl rfl rfl ht1 ht2 (by show (hs).length ≤ _; simp) ?_
        exact .inr (by kernel_rfl)
      · refine sx (by show 1 ≤ 2; decide) 415 957204118914552934083861314044112310815523154007004773778056060703689225071828550814469845404116572997749478239731145321725312358870287813870284185655667574853452407267016078488716607626584383514319495689059670617460463681664352670035452746772282537401392833285189036296770040214977843369371951080400378226573929317656659361530948921669688111554314318014781811849468168309408758245555269439910008039247225596794638426590423181033258460209223637477818454091658156377253566678968996080891855616348795228241171608604163739887639867309044085967794578337558676526908920556003613141018007678266121782534645420215946446951962696021393496075553371670734985136350510689838798681836020039680 (by kernel_rfl) (by kernel_rfl) ?_
        refine GoX.igt (.ofNat k) mi true (by kernel_rfl) (decide_eq_true hgt) ?_
        refine sx (by show 1 ≤ 2; decide) 6 3 (by kernel_rfl) (by kernel_rfl) ?_
        refine GoX.ine 23 23 false (by kernel_rfl) (by decide) ?_
        refine sx (by show 1 ≤ 2; decide) 23 765638577095901128293241426135091773440 (by kernel_rfl) (by kernel_rfl) ?_
        refine GoX.len 10 (b + 27) hs nh (by kernel_rfl) (by omega) ?_
        refine sx (by show 1 ≤ 2; decide) 5 3 (by kernel_rfl) (by kernel_rfl) ?_
        refine GoX.ine hs.length hs.length false (by kernel_rfl) (by simp) ?_
        refine sx (by show 1 ≤ 2; decide) 1 0 (by kernel_rfl) (by kernel_rfl) ?_
        refine GoX.less _ rfl ?_
        refine GoX.cutF [0, 1, 2, 3, 4, 5, 6, 7, 8, 9, 10, 11, 12, 23] (fun S => s2U ⟨⟨w0, false, b2, sa, b, t0, its, n0, [], its'⟩, u, acc, na⟩ (X2.of ⟨lc, ra, k1, v1, k2, v2, (slS b), cv, mi, tmi, md, tmd, hs, nh, turn, tu, ia, j, m + 1, lc2, x0, tq, rest, tv, k3, v3, k4, v4, k5, v5⟩ 23 turn' tu' (hs) (nh) m S.T) S.p S.nx S.tk) (by kernel_rfl) (by kernel_rfl) (by kernel_rfl) (by decide) (by kernel_rfl) ?_
        refine next _ _ _ _ rfl rfl rfl ht1 ht2 (by show (hs).length ≤ _; simp) ?_
        exact .inr (by kernel_rfl)
    · refine GoX.igt (.ofNat k) mi false (by kernel_rfl) (decide_eq_false hgt) ?_
      refine sx (by show 1 ≤ 2; decide) 309 309859003200826355570864908809782277280112589713629294294286339951285381618625202251892091450402532597737812249312609616509962558881499488695627602031635535539155859894577956178808113499507184761447073814414376096401441780631745472773755271091021977801085355899870516406705158791326437905007983980952000158125201556387716741129681136682883201634186501592576958759867884796338298824338359837307734043365665957089056887218072621429805399558560814069740441861806825158367168743010945437041230656773548337113391854757316860592128 (by kernel_rfl) (by kernel_rfl) ?_
      refine GoX.size ba n k bs (by kernel_rfl) (by kernel_rfl) hb1 hb3 hbb hnd hkq hbk (P := (Dw.toLw ⟨⟨w0, false, b2, sa, b, t0, its, n0, [], its'⟩, u, acc, na⟩).w.params) (by kernel_rfl) fun u2 nx4 tk4 => ?_
      refine sx (by show 1 ≤ 2; decide) 10 11031594 (by kernel_rfl) (by kernel_rfl) ?_
      refine GoX.lmul 41 k 0 ⟨⟨[118]⟩⟩ (by kernel_rfl) (by omega) (by show 1 ≤ 2; decide) (fun o => (by kernel_rfl)) fun q1 => ?_
      refine sx (by show 1 ≤ 2; decide) 81 953571501486785238246250616392411653154467347392912961143850533202691314005336221791277042281374860874652797616600531733359644200 (by kernel_rfl) (by kernel_rfl) ?_
      refine GoX.append 10 (b + 27) hs nh (by kernel_rfl) (by omega) (.inr (by show 2 ≤ 10; decide)) fun x => ?_
      refine sx (by show 1 ≤ 2; decide) 97 743691123206088853655468870467092847662522760059081585472684781043063357580970858500068262755231478162952086576118237518380 (by kernel_rfl) (by kernel_rfl) ?_
      refine GoX.igt (.ofNat k) mi false (by kernel_rfl) (decide_eq_false hgt) ?_
      refine sx (by show 1 ≤ 2; decide) 44 1636754394463130041487680842762112403296029726381826397437952 (by kernel_rfl) (by kernel_rfl) ?_
      refine GoX.strne ⟨⟨joinC 44 (ps.map ptT)⟩⟩ (by kernel_rfl) ?_
      refine sx (by show 1 ≤ 2; decide) 37 75239232604160277952898813216303811391547094018683850243 (by kernel_rfl) (by kernel_rfl) ?_
      refine GoX.lmul 48 k 0 ⟨⟨[118]⟩⟩ (by kernel_rfl) (by omega) (by show 1 ≤ 2; decide) (fun o => (by kernel_rfl)) fun q2 => ?_
      refine sx (by show 1 ≤ 2; decide) 6 11297835 (by kernel_rfl) (by kernel_rfl) ?_
      refine GoX.lne 42 49 k 0 0 ⟨⟨[118]⟩⟩ q1 q2 (by kernel_rfl) ?_
      refine sx (by show 1 ≤ 2; decide) 24 765638577095901128293241426135091773440 (by kernel_rfl) (by kernel_rfl) ?_
      refine GoX.len 10 (b + 27) (hs ++ [x]) (nh + 1) (by kernel_rfl) (by simp only [List.length_append, List.length_cons, List.length_nil]; omega) ?_
      refine sx (by show 1 ≤ 2; decide) 11 3 (by kernel_rfl) (by kernel_rfl) ?_
      refine GoX.ine (hs ++ [x]).length (hs.length + 1) false (by kernel_rfl) (by simp) ?_
      refine sx (by show 1 ≤ 2; decide) 1 0 (by kernel_rfl) (by kernel_rfl) ?_
      refine GoX.less _ rfl ?_
      refine GoX.cutF [0, 1, 2, 3, 4, 5, 6, 7, 8, 9, 10, 11, 12, 23] (fun S => s2U ⟨⟨w0, false, b2, sa, b, t0, its, n0, [], its'⟩, u, acc, na⟩ (X2.of ⟨lc, ra, k1, v1, k2, v2, sl, cv, mi, tmi, md, tmd, hs, nh, turn, tu, ia, j, m + 1, lc2, x0, tq, rest, tv, k3, v3, k4, v4, k5, v5⟩ 23 turn' tu' (hs ++ [x]) (nh + 1) m S.T) S.p S.nx S.tk) (by kernel_rfl) (by kernel_rfl) (by kernel_rfl) (by decide) (by kernel_rfl) ?_
      refine next _ _ _ _ rfl rfl rfl ht1 ht2 (by show (hs ++ [x]).length ≤ _; simp) ?_
      rcases hsl with rfl | rfl
      · exact .inl (by kernel_rfl)
      · exact .inr (by kernel_rfl)
  · refine sx (by show 1 ≤ 2; decide) 2 13 (by kernel_rfl) (by kernel_rfl) ?_
    refine GoX.range 12 ia j m (by kernel_rfl) (.inr (by show 2 ≤ 12; decide)) ?_
    refine sx (by show 1 ≤ 2; decide) 14 402654723 (by kernel_rfl) (by kernel_rfl) ?_
    refine GoX.proto 7 6 (b + 11) (b + 7) turn tu 0 na acc (by kernel_rfl) (by kernel_rfl) (by decide) (.inr (by show 2 ≤ 7; decide)) (by show 1 ≤ 2; decide) (fun o o2 ta => (by kernel_rfl)) hc hl h0 (by omega) fun ps k tx tz ta turn' tu' nx1 tk1 hne h3 hps hk hk2 ht1 ht2 => ?_
    refine sx (by show 1 ≤ 2; decide) 84 743691123206088853655468870467092846167639047497997338533430230357159202073328888254241066730992277364831526843824746273806 (by kernel_rfl) (by kernel_rfl) ?_
    refine GoX.len 10 (b + 27) hs nh (by kernel_rfl) (by omega) ?_
    refine sx (by show 1 ≤ 2; decide) 322 6286207251902671467616734174916788068620233912118485118042712314573472341715042077029894710892682210178615700120466226465305890045911073523423931113654392319175805436108967828233015937816222926222714481684707450019608009359221337440459013174288142616676116833785078720248750382931641372238822143093880931346425781594889321903099047946447054121790704848721427473901194363247514211142756026548224 (by kernel_rfl) (by kernel_rfl) ?_
    refine GoX.read ps (by kernel_rfl) (by kernel_rfl) hne h3 (fun q hq => (hps q hq).1) fun ba n bs nx2 tk2 hnd hmap hkq => ?_
    have hbl : bs.length = ps.length := by have := congrArg List.length hmap; simpa using this
    have hb1 : 1 ≤ bs.length := by rw [hbl]; exact List.length_pos_iff.mpr hne
    have hb3 : bs.length ≤ 3 := by omega
    have hbk : bdSize 1 bs = .ofNat k := (size_eq bs ps 1 hmap).trans hk
    have hbb : ∀ b ∈ bs, Builtin.Int.intBits (b.hi - b.lo + 1) ≤ 64 := bs_bits bs ps hmap hps
    refine sx (by show 1 ≤ 2; decide) 67 15914404392319191496690046474250036453552937935659181618392645890548664398681172821427234 (by kernel_rfl) (by kernel_rfl) ?_
    refine GoX.size ba n k bs (by kernel_rfl) (by kernel_rfl) hb1 hb3 hbb hnd hkq hbk (P := (Dw.toLw ⟨⟨w0, true, b2, sa, b, t0, its, n0, [], its'⟩, u, acc, na⟩).w.params) (by kernel_rfl) fun u1 nx3 tk3 => ?_
    refine sx (by show 1 ≤ 2; decide) 22 2920679386504749787495580391445536 (by kernel_rfl) (by kernel_rfl) ?_
    by_cases hgt : mi < (k : Int)
    · refine GoX.igt (.ofNat k) mi true (by kernel_rfl) (decide_eq_true hgt) ?_
      rcases hsl with rfl | rfl
      · refine sx (by show 1 ≤ 2; decide) 417 490088508884251102250936992790585503137547854851586444174364703080288883236776218017008560846907685374847732858742346404723359927741587360701585503055701798324967632520712232186222903104811204359331581792798551356139757405012148567058151806347408659149513130642016786583946260590068655805118438953164993652004110073860836755366612266651550585382451959318206536166434116579865548902674676416856898070104496540596504338346989925327341942872029970019987108840065522562252434617148247330217847143735175177006336542584798333912789806521329360252371478285885987197687377294598940219378886224426449552498970035342542553154168584996729618794615555751362740673763435173427148753751840282116096 (by kernel_rfl) (by kernel_rfl) ?_
        refine GoX.igt (.ofNat k) mi true (by kernel_rfl) (decide_eq_true hgt) ?_
        refine sx (by show 1 ≤ 2; decide) 6 3 (by kernel_rfl) (by kernel_rfl) ?_
        refine GoX.ine 23 23 false (by kernel_rfl) (by decide) ?_
        refine sx (by show 1 ≤ 2; decide) 23 765638577095901128293241426135091773440 (by kernel_rfl) (by kernel_rfl) ?_
        refine GoX.len 10 (b + 27) hs nh (by kernel_rfl) (by omega) ?_
        refine sx (by show 1 ≤ 2; decide) 5 3 (by kernel_rfl) (by kernel_rfl) ?_
        refine GoX.ine hs.length hs.length false (by kernel_rfl) (by simp) ?_
        refine sx (by show 1 ≤ 2; decide) 1 0 (by kernel_rfl) (by kernel_rfl) ?_
        refine GoX.less _ rfl ?_
        refine GoX.cutF [0, 1, 2, 3, 4, 5, 6, 7, 8, 9, 10, 11, 12, 23] (fun S => s2U ⟨⟨w0, true, b2, sa, b, t0, its, n0, [], its'⟩, u, acc, na⟩ (X2.of ⟨lc, ra, k1, v1, k2, v2, ⟨[]⟩, cv, mi, tmi, md, tmd, hs, nh, turn, tu, ia, j, m + 1, lc2, x0, tq, rest, tv, k3, v3, k4, v4, k5, v5⟩ 23 turn' tu' (hs) (nh) m S.T) S.p S.nx S.tk) (by kernel_rfl) (by kernel_rfl) (by kernel_rfl) (by decide) (by kernel_rfl) ?_
        refine next _ _ _ _ rfl rfl rfl ht1 ht2 (by show (hs).length ≤ _; simp) ?_
        exact .inr (by kernel_rfl)
      · refine sx (by show 1 ≤ 2; decide) 415 957204118914552934083861314044112310815523154007004773778056060703689225071828550814469845404116572997749478239731145321725312358870287813870284185655667574853452407267016078488716607626584383514319495689059670617460463681664352670035452746772282537401392833285189036296770040214977843369371951080400378226573929317656659361530948921669688111554314318014781811849468168309408758245555269439910008039247225596794638426590423181033258460209223637477818454091658156377253566678968996080891855616348795228241171608604163739887639867309044085967794578337558676526908920556003613141018007678266121782534645420215946446951962696021393496075553371670734985136350510689838798681836020039680 (by kernel_rfl) (by kernel_rfl) ?_
        refine GoX.igt (.ofNat k) mi true (by kernel_rfl) (decide_eq_true hgt) ?_
        refine sx (by show 1 ≤ 2; decide) 6 3 (by kernel_rfl) (by kernel_rfl) ?_
        refine GoX.ine 23 23 false (by kernel_rfl) (by decide) ?_
        refine sx (by show 1 ≤ 2; decide) 23 765638577095901128293241426135091773440 (by kernel_rfl) (by kernel_rfl) ?_
        refine GoX.len 10 (b + 27) hs nh (by kernel_rfl) (by omega) ?_
        refine sx (by show 1 ≤ 2; decide) 5 3 (by kernel_rfl) (by kernel_rfl) ?_
        refine GoX.ine hs.length hs.length false (by kernel_rfl) (by simp) ?_
        refine sx (by show 1 ≤ 2; decide) 1 0 (by kernel_rfl) (by kernel_rfl) ?_
        refine GoX.less _ rfl ?_
        refine GoX.cutF [0, 1, 2, 3, 4, 5, 6, 7, 8, 9, 10, 11, 12, 23] (fun S => s2U ⟨⟨w0, true, b2, sa, b, t0, its, n0, [], its'⟩, u, acc, na⟩ (X2.of ⟨lc, ra, k1, v1, k2, v2, (slS b), cv, mi, tmi, md, tmd, hs, nh, turn, tu, ia, j, m + 1, lc2, x0, tq, rest, tv, k3, v3, k4, v4, k5, v5⟩ 23 turn' tu' (hs) (nh) m S.T) S.p S.nx S.tk) (by kernel_rfl) (by kernel_rfl) (by kernel_rfl) (by decide) (by kernel_rfl) ?_
        refine next _ _ _ _ rfl rfl rfl ht1 ht2 (by show (hs).length ≤ _; simp) ?_
        exact .inr (by kernel_rfl)
    · refine GoX.igt (.ofNat k) mi false (by kernel_rfl) (decide_eq_false hgt) ?_
      refine sx (by show 1 ≤ 2; decide) 309 309859003200826355570864908809782277280112589713629294294286339951285381618625202251892091450402532597737812249312609616509962558881499488695627602031635535539155859894577956178808113499507184761447073814414376096401441780631745472773755271091021977801085355899870516406705158791326437905007983980952000158125201556387716741129681136682883201634186501592576958759867884796338298824338359837307734043365665957089056887218072621429805399558560814069740441861806825158367168743010945437041230656773548337113391854757316860592128 (by kernel_rfl) (by kernel_rfl) ?_
      refine GoX.size ba n k bs (by kernel_rfl) (by kernel_rfl) hb1 hb3 hbb hnd hkq hbk (P := (Dw.toLw ⟨⟨w0, true, b2, sa, b, t0, its, n0, [], its'⟩, u, acc, na⟩).w.params) (by kernel_rfl) fun u2 nx4 tk4 => ?_
      refine sx (by show 1 ≤ 2; decide) 10 11031594 (by kernel_rfl) (by kernel_rfl) ?_
      refine GoX.lmul 41 k 0 ⟨⟨[118]⟩⟩ (by kernel_rfl) (by omega) (by show 1 ≤ 2; decide) (fun o => (by kernel_rfl)) fun q1 => ?_
      refine sx (by show 1 ≤ 2; decide) 81 953571501486785238246250616392411653154467347392912961143850533202691314005336221791277042281374860874652797616600531733359644200 (by kernel_rfl) (by kernel_rfl) ?_
      refine GoX.append 10 (b + 27) hs nh (by kernel_rfl) (by omega) (.inr (by show 2 ≤ 10; decide)) fun x => ?_
      refine sx (by show 1 ≤ 2; decide) 97 743691123206088853655468870467092847662522760059081585472684781043063357580970858500068262755231478162952086576118237518380 (by kernel_rfl) (by kernel_rfl) ?_
      refine GoX.igt (.ofNat k) mi false (by kernel_rfl) (decide_eq_false hgt) ?_
      refine sx (by show 1 ≤ 2; decide) 44 1636754394463130041487680842762112403296029726381826397437952 (by kernel_rfl) (by kernel_rfl) ?_
      refine GoX.strne ⟨⟨joinC 44 (ps.map ptT)⟩⟩ (by kernel_rfl) ?_
      refine sx (by show 1 ≤ 2; decide) 37 75239232604160277952898813216303811391547094018683850243 (by kernel_rfl) (by kernel_rfl) ?_
      refine GoX.lmul 48 k 0 ⟨⟨[118]⟩⟩ (by kernel_rfl) (by omega) (by show 1 ≤ 2; decide) (fun o => (by kernel_rfl)) fun q2 => ?_
      refine sx (by show 1 ≤ 2; decide) 6 11297835 (by kernel_rfl) (by kernel_rfl) ?_
      refine GoX.lne 42 49 k 0 0 ⟨⟨[118]⟩⟩ q1 q2 (by kernel_rfl) ?_
      refine sx (by show 1 ≤ 2; decide) 24 765638577095901128293241426135091773440 (by kernel_rfl) (by kernel_rfl) ?_
      refine GoX.len 10 (b + 27) (hs ++ [x]) (nh + 1) (by kernel_rfl) (by simp only [List.length_append, List.length_cons, List.length_nil]; omega) ?_
      refine sx (by show 1 ≤ 2; decide) 11 3 (by kernel_rfl) (by kernel_rfl) ?_
      refine GoX.ine (hs ++ [x]).length (hs.length + 1) false (by kernel_rfl) (by simp) ?_
      refine sx (by show 1 ≤ 2; decide) 1 0 (by kernel_rfl) (by kernel_rfl) ?_
      refine GoX.less _ rfl ?_
      refine GoX.cutF [0, 1, 2, 3, 4, 5, 6, 7, 8, 9, 10, 11, 12, 23] (fun S => s2U ⟨⟨w0, true, b2, sa, b, t0, its, n0, [], its'⟩, u, acc, na⟩ (X2.of ⟨lc, ra, k1, v1, k2, v2, sl, cv, mi, tmi, md, tmd, hs, nh, turn, tu, ia, j, m + 1, lc2, x0, tq, rest, tv, k3, v3, k4, v4, k5, v5⟩ 23 turn' tu' (hs ++ [x]) (nh + 1) m S.T) S.p S.nx S.tk) (by kernel_rfl) (by kernel_rfl) (by kernel_rfl) (by decide) (by kernel_rfl) ?_
      refine next _ _ _ _ rfl rfl rfl ht1 ht2 (by show (hs ++ [x]).length ≤ _; simp) ?_
      rcases hsl with rfl | rfl
      · exact .inl (by kernel_rfl)
      · exact .inr (by kernel_rfl)
end
end Mine
end
section
namespace Mine
section
variable (h₀ : Heap) (R₁ : Result → Shared → Prop) (d : Drawn) (os : OsState) (w0 : World) (b1 b2 : Bool) (sa b t0 : Nat) (its : List Value) (n0 : Nat) (its' : List Value) (u : Nat) (acc : List Value) (na : Nat)
theorem turn2U (lc ra k1 : Nat) (v1 : Value) (k2 : Nat) (v2 : Value) (sl : Array (Option Value)) (cv : Value) (mi : Int) (tmi : Nat) (md : Int) (tmd : Nat) (hs : List Value) (nh : Nat) (turn : Int) (tu ia j m lc2 : Nat) (x0 : Value) (tq : Nat) (rest : List Value) (tv : Value) (k3 : Nat) (v3 : Value) (k4 : Nat) (v4 : Value) (k5 : Nat) (v5 : Value) (p : Pos) (nx tk : Nat) (hc : Cells acc) (hl : acc.length ≤ 63) (h0 : 0 ≤ turn) (h1 : turn ≤ 700) (hh : hs.length ≤ 10) (hsl : sl = ⟨[]⟩ ∨ sl = slS b)
    (next : ∀ (X : X2) (p : Pos) (nx tk : Nat), X.ia = ia → X.m = m → X.mi = mi → turn ≤ X.turn → X.turn ≤ turn + 10 → X.hs.length ≤ hs.length + 1 → (X.sl = ⟨[]⟩ ∨ X.sl = slS b) → GoX (vb (V2 ⟨⟨w0, b1, b2, sa, b, t0, its, n0, [], its'⟩, u, acc, na⟩ ia) h₀ R₁ d os) (s2U ⟨⟨w0, b1, b2, sa, b, t0, its, n0, [], its'⟩, u, acc, na⟩ X p nx tk)) :
    GoX (vb (V2 ⟨⟨w0, b1, b2, sa, b, t0, its, n0, [], its'⟩, u, acc, na⟩ ia) h₀ R₁ d os) (s2U ⟨⟨w0, b1, b2, sa, b, t0, its, n0, [], its'⟩, u, acc, na⟩ ⟨lc, ra, k1, v1, k2, v2, sl, cv, mi, tmi, md, tmd, hs, nh, turn, tu, ia, j, m + 1, lc2, x0, tq, rest, tv, k3, v3, k4, v4, k5, v5⟩ p nx tk) := by
  cases b1
  · refine sx (by show 1 ≤ 2; decide) 2 13 (by kernel_rfl) (by kernel_rfl) ?_
    refine GoX.range 12 ia j m (by kernel_rfl) (.inr (by show 2 ≤ 12; decide)) ?_
    refine sx (by show 1 ≤ 2; decide) 14 402654723 (by kernel_rfl) (by kernel_rfl) ?_
    refine GoX.proto 7 6 (b + 11) (b + 7) turn tu 0 na acc (by kernel_rfl) (by kernel_rfl) (by decide) (.inr (by show 2 ≤ 7; decide)) (by show 1 ≤ 2; decide) (fun o o2 ta => (by kernel_rfl)) hc hl h0 (by omega) fun ps k tx tz ta turn' tu' nx1 tk1 hne h3 hps hk hk2 ht1 ht2 => ?_
    refine sx (by show 1 ≤ 2; decide) 84 743691123206088853655468870467092846167639047497997366194441029235974538015364124933982997493949567002701712700673298800143 (by kernel_rfl) (by kernel_rfl) ?_
    refine GoX.len 10 (b + 27) hs nh (by kernel_rfl) (by omega) ?_
    refine sx (by show 1 ≤ 2; decide) 306 46835893779267903176074729672944376513748779824867560274795613196116259729289284232596849321092150660473908533036833724024007685120724067880265296517025450567890377156859507496434876420553469041631418324263672283462905503116967546777389324880479012061579775341453878622940641717814880030482468226623504193236619553126284317344655950267212682596354011511127229824085376192915060585398272 (by kernel_rfl) (by kernel_rfl) ?_
    refine GoX.read ps (by kernel_rfl) (by kernel_rfl) hne h3 (fun q hq => (hps q hq).1) fun ba n bs nx2 tk2 hnd hmap hkq => ?_
    have hbl : bs.length = ps.length := by have := congrArg List.length hmap; simpa using this
    have hb1 : 1 ≤ bs.length := by rw [hbl]; exact List.length_pos_iff.mpr hne
    have hb3 : bs.length ≤ 3 := by omega
    have hbk : bdSize 1 bs = .ofNat k := (size_eq bs ps 1 hmap).trans hk
    have hbb : ∀ b ∈ bs, Builtin.Int.intBits (b.hi - b.lo + 1) ≤ 64 := bs_bits bs ps hmap hps
    refine sx (by show 1 ≤ 2; decide) 67 13427778706019317846925508425972356795521759713928612052034155498194365255574057777379869 (by kernel_rfl) (by kernel_rfl) ?_
    refine GoX.size ba n k bs (by kernel_rfl) (by kernel_rfl) hb1 hb3 hbb hnd hkq hbk (P := (Dw.toLw ⟨⟨w0, false, b2, sa, b, t0, its, n0, [], its'⟩, u, acc, na⟩).w.params) (by kernel_rfl) fun u1 nx3 tk3 => ?_
    refine sx (by show 1 ≤ 2; decide) 22 2920679386504749787495580391445531 (by kernel_rfl) (by kernel_rfl) ?_
    by_cases hgt : mi < (k : Int)
    · refine GoX.igt (.ofNat k) mi true (by kernel_rfl) (decide_eq_true hgt) ?_
      rcases hsl with rfl | rfl
      · refine sx (by show 1 ≤ 2; decide) 417 490088508884251102250936992790585503137547854851539779317986934632293086570107845544109210281375430731967655118857113264546059059780904670197568991468091174170088814532374406110604185119911169506797180960354666080560875278354209808814310188943370475167323651892896986227682268998994543221430214798028834052729471759280863665526075666738359708734984399897711584994260146789463915822106573412543096946012604429103996962435974652927702047419459290506806131725576145253417609874090077897866224327038793922734185047478438478485104421671725534398726240567859192703528434577877790341131449663461505413996217534856069680573514081137305114125948197304697034560734567591061237694827473828315136 (by kernel_rfl) (by kernel_rfl) ?_
        refine GoX.igt (.ofNat k) mi true (by kernel_rfl) (decide_eq_true hgt) ?_
        refine sx (by show 1 ≤ 2; decide) 6 3 (by kernel_rfl) (by kernel_rfl) ?_
        refine GoX.ine 23 23 false (by kernel_rfl) (by decide) ?_
        refine sx (by show 1 ≤ 2; decide) 23 765638577095901128293241426135091773440 (by kernel_rfl) (by kernel_rfl) ?_
        refine GoX.len 10 (b + 27) hs nh (by kernel_rfl) (by omega) ?_
        refine sx (by show 1 ≤ 2; decide) 5 3 (by kernel_rfl) (by kernel_rfl) ?_
        refine GoX.ine hs.length hs.length false (by kernel_rfl) (by simp) ?_
        refine sx (by show 1 ≤ 2; decide) 1 0 (by kernel_rfl) (by kernel_rfl) ?_
        refine GoX.less _ rfl ?_
        refine GoX.cutF [0, 1, 2, 3, 4, 5, 6, 7, 8, 9, 10, 11, 12, 13] (fun S => s2U ⟨⟨w0, false, b2, sa, b, t0, its, n0, [], its'⟩, u, acc, na⟩ (X2.of ⟨lc, ra, k1, v1, k2, v2, ⟨[]⟩, cv, mi, tmi, md, tmd, hs, nh, turn, tu, ia, j, m + 1, lc2, x0, tq, rest, tv, k3, v3, k4, v4, k5, v5⟩ 13 turn' tu' (hs) (nh) m S.T) S.p S.nx S.tk) (by kernel_rfl) (by kernel_rfl) (by kernel_rfl) (by decide) (by kernel_rfl) ?_
        refine next _ _ _ _ rfl rfl rfl ht1 ht2 (by show (hs).length ≤ _; simp) ?_
        exact .inr (by kernel_rfl)
      · refine sx (by show 1 ≤ 2; decide) 415 957204118914552934083861314044112310815523154006913631480443231703697434707241885828338301330811388148374326404017799344816521601134579433979626936461115574550954715883543761934773799062326502942963244063192707188595459528035566032840449587780020459311179007603314426225941931638661217229355888277400066509239911831431129173863500763225543140870825811572366799651775542246332114050503771022699051842707930322517151135533133947368599723200380582676598675298549457720805445767308949765452543373706702821185849036637981416691298713072500719538634702398839898308425098122765571494920458298154679963287522236858452774155553594130597036174206888966681235690174485943137965382505614540800 (by kernel_rfl) (by kernel_rfl) ?_
        refine GoX.igt (.ofNat k) mi true (by kernel_rfl) (decide_eq_true hgt) ?_
        refine sx (by show 1 ≤ 2; decide) 6 3 (by kernel_rfl) (by kernel_rfl) ?_
        refine GoX.ine 23 23 false (by kernel_rfl) (by decide) ?_
        refine sx (by show 1 ≤ 2; decide) 23 765638577095901128293241426135091773440 (by kernel_rfl) (by kernel_rfl) ?_
        refine GoX.len 10 (b + 27) hs nh (by kernel_rfl) (by omega) ?_
        refine sx (by show 1 ≤ 2; decide) 5 3 (by kernel_rfl) (by kernel_rfl) ?_
        refine GoX.ine hs.length hs.length false (by kernel_rfl) (by simp) ?_
        refine sx (by show 1 ≤ 2; decide) 1 0 (by kernel_rfl) (by kernel_rfl) ?_
        refine GoX.less _ rfl ?_
        refine GoX.cutF [0, 1, 2, 3, 4, 5, 6, 7, 8, 9, 10, 11, 12, 13] (fun S => s2U ⟨⟨w0, false, b2, sa, b, t0, its, n0, [], its'⟩, u, acc, na⟩ (X2.of ⟨lc, ra, k1, v1, k2, v2, (slS b), cv, mi, tmi, md, tmd, hs, nh, turn, tu, ia, j, m + 1, lc2, x0, tq, rest, tv, k3, v3, k4, v4, k5, v5⟩ 13 turn' tu' (hs) (nh) m S.T) S.p S.nx S.tk) (by kernel_rfl) (by kernel_rfl) (by kernel_rfl) (by decide) (by kernel_rfl) ?_
        refine next _ _ _ _ rfl rfl rfl ht1 ht2 (by show (hs).length ≤ _; simp) ?_
        exact .inr (by kernel_rfl)
    · refine GoX.igt (.ofNat k) mi false (by kernel_rfl) (decide_eq_false hgt) ?_
      refine sx (by show 1 ≤ 2; decide) 309 271126627786265945590823657676961128157633630120291468305140739006025413789103293477022104697718392878228143212886483825286467922980860666854869722446506985240930683603086985734190787678939105539161209722575614047239829248869982438841326010653257883475072708280473191035929320602638504075640416667232281164810325942684094582501125798736706081957298578388874229065749626616125016305767908213938687685021183120649932084882233301182068654144186527626780426246702481107507554818947422066211695351297363622065123171201646260663808 (by kernel_rfl) (by kernel_rfl) ?_
      refine GoX.size ba n k bs (by kernel_rfl) (by kernel_rfl) hb1 hb3 hbb hnd hkq hbk (P := (Dw.toLw ⟨⟨w0, false, b2, sa, b, t0, its, n0, [], its'⟩, u, acc, na⟩).w.params) (by kernel_rfl) fun u2 nx4 tk4 => ?_
      refine sx (by show 1 ≤ 2; decide) 10 9718309 (by kernel_rfl) (by kernel_rfl) ?_
      refine GoX.lmul 36 k 0 ⟨⟨[118]⟩⟩ (by kernel_rfl) (by omega) (by show 1 ≤ 2; decide) (fun o => (by kernel_rfl)) fun q1 => ?_
      refine sx (by show 1 ≤ 2; decide) 81 845264091560190907793968812324322445988981524126559401970092658076984804314989872292992711570516382375822334991251708260282024995 (by kernel_rfl) (by kernel_rfl) ?_
      refine GoX.append 10 (b + 27) hs nh (by kernel_rfl) (by omega) (.inr (by show 2 ≤ 10; decide)) fun x => ?_
      refine sx (by show 1 ≤ 2; decide) 97 743691123206088853655468870467092847662522760059010773285039651275803345970764958360725509584570005215276293043823770095655 (by kernel_rfl) (by kernel_rfl) ?_
      refine GoX.igt (.ofNat k) mi false (by kernel_rfl) (decide_eq_false hgt) ?_
      refine sx (by show 1 ≤ 2; decide) 44 1632831190883506566995219531980208459824768248571052237258752 (by kernel_rfl) (by kernel_rfl) ?_
      refine GoX.strne ⟨⟨joinC 44 (ps.map ptT)⟩⟩ (by kernel_rfl) ?_
      refine sx (by show 1 ≤ 2; decide) 37 67561759892920314444989929009922266022408487845685642243 (by kernel_rfl) (by kernel_rfl) ?_
      refine GoX.lmul 43 k 0 ⟨⟨[118]⟩⟩ (by kernel_rfl) (by omega) (by show 1 ≤ 2; decide) (fun o => (by kernel_rfl)) fun q2 => ?_
      refine sx (by show 1 ≤ 2; decide) 6 9984550 (by kernel_rfl) (by kernel_rfl) ?_
      refine GoX.lne 37 44 k 0 0 ⟨⟨[118]⟩⟩ q1 q2 (by kernel_rfl) ?_
      refine sx (by show 1 ≤ 2; decide) 24 765638577095901128293241426135091773440 (by kernel_rfl) (by kernel_rfl) ?_
      refine GoX.len 10 (b + 27) (hs ++ [x]) (nh + 1) (by kernel_rfl) (by simp only [List.length_append, List.length_cons, List.length_nil]; omega) ?_
      refine sx (by show 1 ≤ 2; decide) 11 3 (by kernel_rfl) (by kernel_rfl) ?_
      refine GoX.ine (hs ++ [x]).length (hs.length + 1) false (by kernel_rfl) (by simp) ?_
      refine sx (by show 1 ≤ 2; decide) 1 0 (by kernel_rfl) (by kernel_rfl) ?_
      refine GoX.less _ rfl ?_
      refine GoX.cutF [0, 1, 2, 3, 4, 5, 6, 7, 8, 9, 10, 11, 12, 13] (fun S => s2U ⟨⟨w0, false, b2, sa, b, t0, its, n0, [], its'⟩, u, acc, na⟩ (X2.of ⟨lc, ra, k1, v1, k2, v2, sl, cv, mi, tmi, md, tmd, hs, nh, turn, tu, ia, j, m + 1, lc2, x0, tq, rest, tv, k3, v3, k4, v4, k5, v5⟩ 13 turn' tu' (hs ++ [x]) (nh + 1) m S.T) S.p S.nx S.tk) (by kernel_rfl) (by kernel_rfl) (by kernel_rfl) (by decide) (by kernel_rfl) ?_
      refine next _ _ _ _ rfl rfl rfl ht1 ht2 (by show (hs ++ [x]).length ≤ _; simp) ?_
      rcases hsl with rfl | rfl
      · exact .inl (by kernel_rfl)
      · exact .inr (by kernel_rfl)
  · refine sx (by show 1 ≤ 2; decide) 2 13 (by kernel_rfl) (by kernel_rfl) ?_
    refine GoX.range 12 ia j m (by kernel_rfl) (.inr (by show 2 ≤ 12; decide)) ?_
    refine sx (by show 1 ≤ 2; decide) 14 402654723 (by kernel_rfl) (by kernel_rfl) ?_
    refine GoX.proto 7 6 (b + 11) (b + 7) turn tu 0 na acc (by kernel_rfl) (by kernel_rfl) (by decide) (.inr (by show 2 ≤ 7; decide)) (by show 1 ≤ 2; decide) (fun o o2 ta => (by kernel_rfl)) hc hl h0 (by omega) fun ps k tx tz ta turn' tu' nx1 tk1 hne h3 hps hk hk2 ht1 ht2 => ?_
    refine sx (by show 1 ≤ 2; decide) 84 743691123206088853655468870467092846167639047497997366194441029235974538015364124933982997493949567002701712700673298800143 (by kernel_rfl) (by kernel_rfl) ?_
    refine GoX.len 10 (b + 27) hs nh (by kernel_rfl) (by omega) ?_
    refine sx (by show 1 ≤ 2; decide) 306 46835893779267903176074729672944376513748779824867560274795613196116259729289284232596849321092150660473908533036833724024007685120724067880265296517025450567890377156859507496434876420553469041631418324263672283462905503116967546777389324880479012061579775341453878622940641717814880030482468226623504193236619553126284317344655950267212682596354011511127229824085376192915060585398272 (by kernel_rfl) (by kernel_rfl) ?_
    refine GoX.read ps (by kernel_rfl) (by kernel_rfl) hne h3 (fun q hq => (hps q hq).1) fun ba n bs nx2 tk2 hnd hmap hkq => ?_
    have hbl : bs.length = ps.length := by have := congrArg List.length hmap; simpa using this
    have hb1 : 1 ≤ bs.length := by rw [hbl]; exact List.length_pos_iff.mpr hne
    have hb3 : bs.length ≤ 3 := by omega
    have hbk : bdSize 1 bs = .ofNat k := (size_eq bs ps 1 hmap).trans hk
    have hbb : ∀ b ∈ bs, Builtin.Int.intBits (b.hi - b.lo + 1) ≤ 64 := bs_bits bs ps hmap hps
    refine sx (by show 1 ≤ 2; decide) 67 13427778706019317846925508425972356795521759713928612052034155498194365255574057777379869 (by kernel_rfl) (by kernel_rfl) ?_
    refine GoX.size ba n k bs (by kernel_rfl) (by kernel_rfl) hb1 hb3 hbb hnd hkq hbk (P := (Dw.toLw ⟨⟨w0, true, b2, sa, b, t0, its, n0, [], its'⟩, u, acc, na⟩).w.params) (by kernel_rfl) fun u1 nx3 tk3 => ?_
    refine sx (by show 1 ≤ 2; decide) 22 2920679386504749787495580391445531 (by kernel_rfl) (by kernel_rfl) ?_
    by_cases hgt : mi < (k : Int)
    · refine GoX.igt (.ofNat k) mi true (by kernel_rfl) (decide_eq_true hgt) ?_
      rcases hsl with rfl | rfl
      · refine sx (by show 1 ≤ 2; decide) 417 490088508884251102250936992790585503137547854851539779317986934632293086570107845544109210281375430731967655118857113264546059059780904670197568991468091174170088814532374406110604185119911169506797180960354666080560875278354209808814310188943370475167323651892896986227682268998994543221430214798028834052729471759280863665526075666738359708734984399897711584994260146789463915822106573412543096946012604429103996962435974652927702047419459290506806131725576145253417609874090077897866224327038793922734185047478438478485104421671725534398726240567859192703528434577877790341131449663461505413996217534856069680573514081137305114125948197304697034560734567591061237694827473828315136 (by kernel_rfl) (by kernel_rfl) ?_
        refine GoX.igt (.ofNat k) mi true (by kernel_rfl) (decide_eq_true hgt) ?_
        refine sx (by show 1 ≤ 2; decide) 6 3 (by kernel_rfl) (by kernel_rfl) ?_
        refine GoX.ine 23 23 false (by kernel_rfl) (by decide) ?_
        refine sx (by show 1 ≤ 2; decide) 23 765638577095901128293241426135091773440 (by kernel_rfl) (by kernel_rfl) ?_
        refine GoX.len 10 (b + 27) hs nh (by kernel_rfl) (by omega) ?_
        refine sx (by show 1 ≤ 2; decide) 5 3 (by kernel_rfl) (by kernel_rfl) ?_
        refine GoX.ine hs.length hs.length false (by kernel_rfl) (by simp) ?_
        refine sx (by show 1 ≤ 2; decide) 1 0 (by kernel_rfl) (by kernel_rfl) ?_
        refine GoX.less _ rfl ?_
        refine GoX.cutF [0, 1, 2, 3, 4, 5, 6, 7, 8, 9, 10, 11, 12, 13] (fun S => s2U ⟨⟨w0, true, b2, sa, b, t0, its, n0, [], its'⟩, u, acc, na⟩ (X2.of ⟨lc, ra, k1, v1, k2, v2, ⟨[]⟩, cv, mi, tmi, md, tmd, hs, nh, turn, tu, ia, j, m + 1, lc2, x0, tq, rest, tv, k3, v3, k4, v4, k5, v5⟩ 13 turn' tu' (hs) (nh) m S.T) S.p S.nx S.tk) (by kernel_rfl) (by kernel_rfl) (by kernel_rfl) (by decide) (by kernel_rfl) ?_
        refine next _ _ _ _ rfl rfl rfl ht1 ht2 (by show (hs).length ≤ _; simp) ?_
        exact .inr (by kernel_rfl)
      · refine sx (by show 1 ≤ 2; decide) 415 957204118914552934083861314044112310815523154006913631480443231703697434707241885828338301330811388148374326404017799344816521601134579433979626936461115574550954715883543761934773799062326502942963244063192707188595459528035566032840449587780020459311179007603314426225941931638661217229355888277400066509239911831431129173863500763225543140870825811572366799651775542246332114050503771022699051842707930322517151135533133947368599723200380582676598675298549457720805445767308949765452543373706702821185849036637981416691298713072500719538634702398839898308425098122765571494920458298154679963287522236858452774155553594130597036174206888966681235690174485943137965382505614540800 (by kernel_rfl) (by kernel_rfl) ?_
        refine GoX.igt (.ofNat k) mi true (by kernel_rfl) (decide_eq_true hgt) ?_
        refine sx (by show 1 ≤ 2; decide) 6 3 (by kernel_rfl) (by kernel_rfl) ?_
        refine GoX.ine 23 23 false (by kernel_rfl) (by decide) ?_
        refine sx (by show 1 ≤ 2; decide) 23 765638577095901128293241426135091773440 (by kernel_rfl) (by kernel_rfl) ?_
        refine GoX.len 10 (b + 27) hs nh (by kernel_rfl) (by omega) ?_
        refine sx (by show 1 ≤ 2; decide) 5 3 (by kernel_rfl) (by kernel_rfl) ?_
        refine GoX.ine hs.length hs.length false (by kernel_rfl) (by simp) ?_
        refine sx (by show 1 ≤ 2; decide) 1 0 (by kernel_rfl) (by kernel_rfl) ?_
        refine GoX.less _ rfl ?_
        refine GoX.cutF [0, 1, 2, 3, 4, 5, 6, 7, 8, 9, 10, 11, 12, 13] (fun S => s2U ⟨⟨w0, true, b2, sa, b, t0, its, n0, [], its'⟩, u, acc, na⟩ (X2.of ⟨lc, ra, k1, v1, k2, v2, (slS b), cv, mi, tmi, md, tmd, hs, nh, turn, tu, ia, j, m + 1, lc2, x0, tq, rest, tv, k3, v3, k4, v4, k5, v5⟩ 13 turn' tu' (hs) (nh) m S.T) S.p S.nx S.tk) (by kernel_rfl) (by kernel_rfl) (by kernel_rfl) (by decide) (by kernel_rfl) ?_
        refine next _ _ _ _ rfl rfl rfl ht1 ht2 (by show (hs).length ≤ _; simp) ?_
        exact .inr (by kernel_rfl)
    · refine GoX.igt (.ofNat k) mi false (by kernel_rfl) (decide_eq_false hgt) ?_
      refine sx (by show 1 ≤ 2; decide) 309 271126627786265945590823657676961128157633630120291468305140739006025413789103293477022104697718392878228143212886483825286467922980860666854869722446506985240930683603086985734190787678939105539161209722575614047239829248869982438841326010653257883475072708280473191035929320602638504075640416667232281164810325942684094582501125798736706081957298578388874229065749626616125016305767908213938687685021183120649932084882233301182068654144186527626780426246702481107507554818947422066211695351297363622065123171201646260663808 (by kernel_rfl) (by kernel_rfl) ?_
      refine GoX.size ba n k bs (by kernel_rfl) (by kernel_rfl) hb1 hb3 hbb hnd hkq hbk (P := (Dw.toLw ⟨⟨w0, true, b2, sa, b, t0, its, n0, [], its'⟩, u, acc, na⟩).w.params) (by kernel_rfl) fun u2 nx4 tk4 => ?_
      refine sx (by show 1 ≤ 2; decide) 10 9718309 (by kernel_rfl) (by kernel_rfl) ?_
      refine GoX.lmul 36 k 0 ⟨⟨[118]⟩⟩ (by kernel_rfl) (by omega) (by show 1 ≤ 2; decide) (fun o => (by kernel_rfl)) fun q1 => ?_
      refine sx (by show 1 ≤ 2; decide) 81 845264091560190907793968812324322445988981524126559401970092658076984804314989872292992711570516382375822334991251708260282024995 (by kernel_rfl) (by kernel_rfl) ?_
      refine GoX.append 10 (b + 27) hs nh (by kernel_rfl) (by omega) (.inr (by show 2 ≤ 10; decide)) fun x => ?_
      refine sx (by show 1 ≤ 2; decide) 97 743691123206088853655468870467092847662522760059010773285039651275803345970764958360725509584570005215276293043823770095655 (by kernel_rfl) (by kernel_rfl) ?_
      refine GoX.igt (.ofNat k) mi false (by kernel_rfl) (decide_eq_false hgt) ?_
      refine sx (by show 1 ≤ 2; decide) 44 1632831190883506566995219531980208459824768248571052237258752 (by kernel_rfl) (by kernel_rfl) ?_
      refine GoX.strne ⟨⟨joinC 44 (ps.map ptT)⟩⟩ (by kernel_rfl) ?_
      refine sx (by show 1 ≤ 2; decide) 37 67561759892920314444989929009922266022408487845685642243 (by kernel_rfl) (by kernel_rfl) ?_
      refine GoX.lmul 43 k 0 ⟨⟨[118]⟩⟩ (by kernel_rfl) (by omega) (by show 1 ≤ 2; decide) (fun o => (by kernel_rfl)) fun q2 => ?_
      refine sx (by show 1 ≤ 2; decide) 6 9984550 (by kernel_rfl) (by kernel_rfl) ?_
      refine GoX.lne 37 44 k 0 0 ⟨⟨[118]⟩⟩ q1 q2 (by kernel_rfl) ?_
      refine sx (by show 1 ≤ 2; decide) 24 765638577095901128293241426135091773440 (by kernel_rfl) (by kernel_rfl) ?_
      refine GoX.len 10 (b + 27) (hs ++ [x]) (nh + 1) (by kernel_rfl) (by simp only [List.length_append, List.length_cons, List.length_nil]; omega) ?_
      refine sx (by show 1 ≤ 2; decide) 11 3 (by kernel_rfl) (by kernel_rfl) ?_
      refine GoX.ine (hs ++ [x]).length (hs.length + 1) false (by kernel_rfl) (by simp) ?_
      refine sx (by show 1 ≤ 2; decide) 1 0 (by kernel_rfl) (by kernel_rfl) ?_
      refine GoX.less _ rfl ?_
      refine GoX.cutF [0, 1, 2, 3, 4, 5, 6, 7, 8, 9, 10, 11, 12, 13] (fun S => s2U ⟨⟨w0, true, b2, sa, b, t0, its, n0, [], its'⟩, u, acc, na⟩ (X2.of ⟨lc, ra, k1, v1, k2, v2, sl, cv, mi, tmi, md, tmd, hs, nh, turn, tu, ia, j, m + 1, lc2, x0, tq, rest, tv, k3, v3, k4, v4, k5, v5⟩ 13 turn' tu' (hs ++ [x]) (nh + 1) m S.T) S.p S.nx S.tk) (by kernel_rfl) (by kernel_rfl) (by kernel_rfl) (by decide) (by kernel_rfl) ?_
      refine next _ _ _ _ rfl rfl rfl ht1 ht2 (by show (hs ++ [x]).length ≤ _; simp) ?_
      rcases hsl with rfl | rfl
      · exact .inl (by kernel_rfl)
      · exact .inr (by kernel_rfl)
end
end Mine
end
section
namespace Mine
/-- the store, by its tokens -/
noncomputable def stG (P : Params) (a1 a2 a3 a4 a5 a6 n : Nat) : Obj := ⟨.type "dict", none, .dict ⟨[⟨kh P ⟨⟨[78]⟩⟩, .str ⟨⟨[78]⟩⟩ a1, .int 5 a2⟩, ⟨kh P ⟨⟨[90]⟩⟩, .str ⟨⟨[90]⟩⟩ a3, .str ⟨⟨[]⟩⟩ a4⟩, ⟨kh P ⟨⟨[65]⟩⟩, .str ⟨⟨[65]⟩⟩ a5, .str ⟨⟨[120]⟩⟩ a6⟩]⟩ n, ⟨[]⟩⟩
section
variable {prog : Program} {w : World} {A : Around} {s : Shared} {R : Result → Shared → Prop}
noncomputable def stKv (a2 a4 a6 : Nat) : List (Str × Value) := [(⟨⟨[78]⟩⟩, .int 5 a2), (⟨⟨[90]⟩⟩, .str ⟨⟨[]⟩⟩ a4), (⟨⟨[65]⟩⟩, .str ⟨⟨[120]⟩⟩ a6)]
theorem st_dict {a a1 a2 a3 a4 a5 a6 n : Nat} (h : s.heap.get? a = some (stG w.params a1 a2 a3 a4 a5 a6 n)) : s.heap.DictOf (strKind prog w) a (stKv a2 a4 a6) := by
  refine ⟨_, _, _, h, ⟨rfl, rfl, rfl⟩, rfl, ?_, ?_, ?_⟩
  · intro e he
    have he : e ∈ ([⟨kh w.params ⟨⟨[78]⟩⟩, .str ⟨⟨[78]⟩⟩ a1, .int 5 a2⟩, ⟨kh w.params ⟨⟨[90]⟩⟩, .str ⟨⟨[90]⟩⟩ a3, .str ⟨⟨[]⟩⟩ a4⟩, ⟨kh w.params ⟨⟨[65]⟩⟩, .str ⟨⟨[65]⟩⟩ a5, .str ⟨⟨[120]⟩⟩ a6⟩] : List DictEntry) := by simpa using he
    simp only [List.mem_cons, List.not_mem_nil, or_false] at he
    rcases he with rfl | rfl | rfl
    · exact ⟨⟨⟨[78]⟩⟩, rfl, rfl⟩
    · exact ⟨⟨⟨[90]⟩⟩, rfl, rfl⟩
    · exact ⟨⟨⟨[65]⟩⟩, rfl, rfl⟩
  · exact .cons rfl rfl (.cons rfl rfl (.cons rfl rfl .nil))
  · show [(⟨⟨[78]⟩⟩ : Str), ⟨⟨[90]⟩⟩, ⟨⟨[65]⟩⟩].Nodup
    decide
theorem eqAt_int {A : Around} {s : Shared} (k : Int) (t u : Nat) : SeqAt.EqAt A s (.int k t) (.int k u) true := fun prog w E Q h => wpAny_eqBool_int (by rw [beq_self_eq_true]; exact h)
theorem eqAt_str {A : Around} {s : Shared} (x : Str) (t u : Nat) : SeqAt.EqAt A s (.str x t) (.str x u) true := fun prog w E Q h => wpAny_eqBool_str (by rw [decide_eq_true rfl]; exact h)
theorem c_deq {a b a1 a2 a3 a4 a5 a6 n b1 b2 b3 b4 b5 b6 n' : Nat} (ha : a ≠ 1) (hb : b ≠ 1) (h1 : s.heap.get? a = some (stG w.params a1 a2 a3 a4 a5 a6 n)) (h2 : s.heap.get? b = some (stG w.params b1 b2 b3 b4 b5 b6 n')) (h : R (.ok (.ret (.bool true))) s) :
    codeAny (model prog w) A (.call (.builtin "dict.__eq__") ⟨[.ref a, .ref b], []⟩) R s := by
  have da : s.heap.DictOf (strKind prog w) a (stKv a2 a4 a6) := st_dict h1
  have db : s.heap.DictOf (strKind prog w) b (stKv b2 b4 b6) := st_dict h2
  refine code_slot F.slot_dict_eq da.typeIs F.entry_dict_eq (F.args_dict_eq_2 _ _) ?_
  show wpAny _ _ (Builtin.Dict.dictSlotArgs "__eq__" ⟨[.ref a, .ref b], []⟩ >>= _) _ _ s
  refine wpAny_bind ?_
  unfold Builtin.Dict.dictSlotArgs
  refine wpAny_bind (wpAny_notOrdered_dict da.typeIs ?_)
  show wpAny _ _ (pure (Value.ref a, Value.ref b)) _ _ s
  refine wpAny_pure ?_
  refine wpAny_bind (wpAny_isInstance (T := "dict") db.typeIs F.sub_dict_dict ?_)
  simp only [Bool.not_true, Bool.false_eq_true, if_false]
  refine wpAny_bind (wpAny_pure (wpAny_bind (wpAny_pure ?_)))
  have hits : KeqHits A.in1 s (stKv b2 b4 b6) (stKv a2 a4 a6) true :=
    .hit (e := true) (b := true) rfl (eqAt_int 5 _ _) (.hit (e := true) (b := true) rfl (eqAt_str _ _ _) (.hit (e := true) (b := true) rfl (eqAt_str _ _ _) .nil))
  refine wpAny_bind (keq_samePairs (beq_eq_false_iff_ne.mpr ha) (beq_eq_false_iff_ne.mpr hb) da db (fun _ => hits) ?_)
  exact wpAny_pure ⟨_, rfl, h⟩
end
theorem GoX.deq {V : VB} {S : SX} (i j b u : Nat) (e : (callIs S.t, S.fits V (.call (.builtin "dict.__eq__") ⟨[.ref (b + 34), .ref (addrAt S.T j)], []⟩), S.T.get i, S.T.get j) = (some (.call (.builtin "dict.__eq__") ⟨[.ref (b + 34), .ref (addrAt S.T j)], []⟩, none), true, some (b + 34, stD V.w.params u), some (addrAt S.T j, stG V.w.params (kTok (objAt S.T j) 0) (tokOf (vAt (objAt S.T j) 0)) (kTok (objAt S.T j) 1) (tokOf (vAt (objAt S.T j) 1)) (kTok (objAt S.T j) 2) (tokOf (vAt (objAt S.T j) 2)) 3)))
    (hk : Nat.ble 2 (addrAt S.T j) = true) (next : GoX V (S.retD (.ok (.ret (.bool true))) 0)) : GoX V S := by
  have e1 : (callIs S.t, S.fits V (.call (.builtin "dict.__eq__") ⟨[.ref (b + 34), .ref (addrAt S.T j)], []⟩)) = (some (.call (.builtin "dict.__eq__") ⟨[.ref (b + 34), .ref (addrAt S.T j)], []⟩, none), true) := Prod.ext (congrArg (·.1) e) (congrArg (·.2.1) e)
  refine GoX.useP _ e1 (.ok (.ret (.bool true))) 0 (fun h' R D post => c_deq (by omega) ?_ (D.own i (b + 34) (stD V.w.params u) (congrArg (·.2.2.1) e)) (D.own j _ _ (congrArg (·.2.2.2) e)) post) next
  have := Nat.le_of_ble_eq_true hk
  omega
end Mine
end
section
namespace Mine
/-- the law's code table, as the ledger holds it -/
noncomputable def tabV : Option (Nat × Obj) → Array Value
  | some (_, ⟨_, _, .fields vs, _⟩) => vs
  | _ => #[]
noncomputable def TabAt (x : Option (Nat × Obj)) : Prop := x = some (349, ⟨.none, none, .fields (tabV x), ⟨[]⟩⟩)
section
variable (h₀ : Heap) (R₀ R₁ : Result → Shared → Prop) (d : Drawn) (os : OsState) (w0 : World) (b1 b2 : Bool) (sa b t0 : Nat) (its : List Value) (n0 : Nat) (its' : List Value) (u : Nat) (acc : List Value) (na : Nat)
theorem law_mid (turn : Int) (tu ia j m lc : Nat) (x0 : Value) (tq : Nat) (rest : List Value) (ra nr : Nat) (rs : List (Nat × Nat)) (no : Nat) (os' : List (Nat × Nat)) (cv : Value) (k1 : Nat) (v1 : Value) (k2 : Nat) (v2 : Value) (sl : Array (Option Value)) (nx tk : Nat) (hc : Cells acc) (hl : acc.length ≤ 63) (h0 : 0 ≤ turn) (h1 : turn ≤ 100) (hsl : sl = ⟨[]⟩ ∨ sl = slS b)
    (next : ∀ (R₁ : Result → Shared → Prop) (Y : X2) (m nx' tk' : Nat), m ≤ 1 → Y.m = m + 1 → Y.hs = [] → 0 ≤ Y.mi → Y.mi ≤ 1000 → 0 ≤ Y.turn → Y.turn ≤ 200 → (Y.sl = ⟨[]⟩ ∨ Y.sl = slS b) →
      (∀ T' m' nx' tk'' h', Rep (wsL (Dw.toLw ⟨⟨w0, b1, b2, sa, b, t0, its, n0, [], its'⟩, u, acc, na⟩).w) h₀ [349] T' nx' h' → GoX (vb (VL (Dw.toLw ⟨⟨w0, b1, b2, sa, b, t0, its, n0, [], its'⟩, u, acc, na⟩).w sa) h₀ R₀ d os) ⟨.func (fdB (st 40)) (lawEnv b), [], suf 5 b, pF2, T', m', nx', tk''⟩ → R₁ (.ok .next) ⟨h', #[], d, tk'', os⟩) →
      GoX (vb (V2 ⟨⟨w0, b1, b2, sa, b, t0, its, n0, [], its'⟩, u, acc, na⟩ Y.ia) h₀ R₁ d os) (s2F ⟨⟨w0, b1, b2, sa, b, t0, its, n0, [], its'⟩, u, acc, na⟩ Y pF2 nx' tk')) :
    GoX (vb (VL (Dw.toLw ⟨⟨w0, b1, b2, sa, b, t0, its, n0, [], its'⟩, u, acc, na⟩).w sa) h₀ R₀ d os) ⟨.func (fdB (st 40)) (lawEnv b), [], suf 3 b, pF1, TB ⟨⟨w0, b1, b2, sa, b, t0, its, n0, [], its'⟩, u, acc, na⟩ ⟨turn, tu, ia, j, m, lc, x0, tq, rest, ra, nr, rs, no, os', cv, k1, v1, k2, v2, sl⟩, 12, nx, tk⟩ := by
  cases b1
  · refine sx (by show 1 ≤ 2; decide) 9 1536 (by kernel_rfl) (by kernel_rfl) ?_
    refine GoX.draw 7 6 (b + 11) (b + 7) turn tu 0 na 19 acc (by kernel_rfl) (by kernel_rfl) (by decide) (.inr (by show 2 ≤ 7; decide)) hc hl h0 (by omega) fun r1 a1 u1 nx1 t1 hr1 => ?_
    refine sx (by show 1 ≤ 2; decide) 44 2353913150872968219026985148663210550560504661765217326086 (by kernel_rfl) (by kernel_rfl) ?_
    refine GoX.draw 7 6 (b + 11) (b + 7) (turn + 1) u1 0 na 1 acc (by kernel_rfl) (by kernel_rfl) (by decide) (.inr (by show 2 ≤ 7; decide)) hc hl (by omega) (by omega) fun r2 a2 u2 nx2 t2 hr2 => ?_
    have hr1 : r1 < 20 := hr1
    have hr2 : r2 < 2 := hr2
    rcases (by omega : r2 = 0 ∨ r2 = 1) with rfl | rfl
    · refine sx (by show 1 ≤ 2; decide) 38 17362654132208063464191826445 (by kernel_rfl) (by kernel_rfl) ?_
      refine GoX.inC [0, 1, 2, 3, 4, 5, 6, 7, 8, 9, 10, 11, 13] (ΓF sa b (cF 4 (.ref (nx2 + 1)) b) pF2) (cF 4 (.ref (nx2 + 1)) b) pF2 (TF2 ⟨⟨w0, false, b2, sa, b, t0, its, n0, [], its'⟩, u, acc, na⟩ ⟨lc, ra, k1, v1, k2, v2, sl, cv, 5 + .ofNat r1, t1, 0, u + 56, [], 0, turn + 1 + 1, u2, nx2 + 1, 0, 1, 0, .none, 0, [], .none, 0, .none, 0, .none, 0, .none⟩) 13 (nx2 + 2) (t2 + 3) (by kernel_rfl) (by kernel_rfl) (by kernel_rfl) (by decide) (by kernel_rfl) ?_
      exact next _ ⟨lc, ra, k1, v1, k2, v2, sl, cv, 5 + .ofNat r1, t1, 0, u + 56, [], 0, turn + 1 + 1, u2, nx2 + 1, 0, 1, 0, .none, 0, [], .none, 0, .none, 0, .none, 0, .none⟩ 0 _ _ (by decide) rfl rfl (by show 0 ≤ 5 + (r1 : Int); omega) (by show 5 + (r1 : Int) ≤ 1000; omega) (by show 0 ≤ turn + 1 + 1; omega) (by show turn + 1 + 1 ≤ 200; omega) hsl fun T' m' nx' tk'' h' D' G => GoX.same m' (by kernel_rfl) D' G
    · refine sx (by show 1 ≤ 2; decide) 38 17362654132208063464191826445 (by kernel_rfl) (by kernel_rfl) ?_
      refine GoX.inC [0, 1, 2, 3, 4, 5, 6, 7, 8, 9, 10, 11, 13] (ΓF sa b (cF 4 (.ref (nx2 + 1)) b) pF2) (cF 4 (.ref (nx2 + 1)) b) pF2 (TF2 ⟨⟨w0, false, b2, sa, b, t0, its, n0, [], its'⟩, u, acc, na⟩ ⟨lc, ra, k1, v1, k2, v2, sl, cv, 5 + .ofNat r1, t1, 0, u + 56, [], 0, turn + 1 + 1, u2, nx2 + 1, 0, 2, 0, .none, 0, [], .none, 0, .none, 0, .none, 0, .none⟩) 13 (nx2 + 2) (t2 + 3) (by kernel_rfl) (by kernel_rfl) (by kernel_rfl) (by decide) (by kernel_rfl) ?_
      exact next _ ⟨lc, ra, k1, v1, k2, v2, sl, cv, 5 + .ofNat r1, t1, 0, u + 56, [], 0, turn + 1 + 1, u2, nx2 + 1, 0, 2, 0, .none, 0, [], .none, 0, .none, 0, .none, 0, .none⟩ 1 _ _ (by decide) rfl rfl (by show 0 ≤ 5 + (r1 : Int); omega) (by show 5 + (r1 : Int) ≤ 1000; omega) (by show 0 ≤ turn + 1 + 1; omega) (by show turn + 1 + 1 ≤ 200; omega) hsl fun T' m' nx' tk'' h' D' G => GoX.same m' (by kernel_rfl) D' G
  · refine sx (by show 1 ≤ 2; decide) 9 1536 (by kernel_rfl) (by kernel_rfl) ?_
    refine GoX.draw 7 6 (b + 11) (b + 7) turn tu 0 na 19 acc (by kernel_rfl) (by kernel_rfl) (by decide) (.inr (by show 2 ≤ 7; decide)) hc hl h0 (by omega) fun r1 a1 u1 nx1 t1 hr1 => ?_
    refine sx (by show 1 ≤ 2; decide) 44 2353913150872968219026985148663210550560504661765217326086 (by kernel_rfl) (by kernel_rfl) ?_
    refine GoX.draw 7 6 (b + 11) (b + 7) (turn + 1) u1 0 na 1 acc (by kernel_rfl) (by kernel_rfl) (by decide) (.inr (by show 2 ≤ 7; decide)) hc hl (by omega) (by omega) fun r2 a2 u2 nx2 t2 hr2 => ?_
    have hr1 : r1 < 20 := hr1
    have hr2 : r2 < 2 := hr2
    rcases (by omega : r2 = 0 ∨ r2 = 1) with rfl | rfl
    · refine sx (by show 1 ≤ 2; decide) 38 17362654132208063464191826445 (by kernel_rfl) (by kernel_rfl) ?_
      refine GoX.inC [0, 1, 2, 3, 4, 5, 6, 7, 8, 9, 10, 11, 13] (ΓF sa b (cF 4 (.ref (nx2 + 1)) b) pF2) (cF 4 (.ref (nx2 + 1)) b) pF2 (TF2 ⟨⟨w0, true, b2, sa, b, t0, its, n0, [], its'⟩, u, acc, na⟩ ⟨lc, ra, k1, v1, k2, v2, sl, cv, 5 + .ofNat r1, t1, 0, u + 56, [], 0, turn + 1 + 1, u2, nx2 + 1, 0, 1, 0, .none, 0, [], .none, 0, .none, 0, .none, 0, .none⟩) 13 (nx2 + 2) (t2 + 3) (by kernel_rfl) (by kernel_rfl) (by kernel_rfl) (by decide) (by kernel_rfl) ?_
      exact next _ ⟨lc, ra, k1, v1, k2, v2, sl, cv, 5 + .ofNat r1, t1, 0, u + 56, [], 0, turn + 1 + 1, u2, nx2 + 1, 0, 1, 0, .none, 0, [], .none, 0, .none, 0, .none, 0, .none⟩ 0 _ _ (by decide) rfl rfl (by show 0 ≤ 5 + (r1 : Int); omega) (by show 5 + (r1 : Int) ≤ 1000; omega) (by show 0 ≤ turn + 1 + 1; omega) (by show turn + 1 + 1 ≤ 200; omega) hsl fun T' m' nx' tk'' h' D' G => GoX.same m' (by kernel_rfl) D' G
    · refine sx (by show 1 ≤ 2; decide) 38 17362654132208063464191826445 (by kernel_rfl) (by kernel_rfl) ?_
      refine GoX.inC [0, 1, 2, 3, 4, 5, 6, 7, 8, 9, 10, 11, 13] (ΓF sa b (cF 4 (.ref (nx2 + 1)) b) pF2) (cF 4 (.ref (nx2 + 1)) b) pF2 (TF2 ⟨⟨w0, true, b2, sa, b, t0, its, n0, [], its'⟩, u, acc, na⟩ ⟨lc, ra, k1, v1, k2, v2, sl, cv, 5 + .ofNat r1, t1, 0, u + 56, [], 0, turn + 1 + 1, u2, nx2 + 1, 0, 2, 0, .none, 0, [], .none, 0, .none, 0, .none, 0, .none⟩) 13 (nx2 + 2) (t2 + 3) (by kernel_rfl) (by kernel_rfl) (by kernel_rfl) (by decide) (by kernel_rfl) ?_
      exact next _ ⟨lc, ra, k1, v1, k2, v2, sl, cv, 5 + .ofNat r1, t1, 0, u + 56, [], 0, turn + 1 + 1, u2, nx2 + 1, 0, 2, 0, .none, 0, [], .none, 0, .none, 0, .none, 0, .none⟩ 1 _ _ (by decide) rfl rfl (by show 0 ≤ 5 + (r1 : Int); omega) (by show 5 + (r1 : Int) ≤ 1000; omega) (by show 0 ≤ turn + 1 + 1; omega) (by show turn + 1 + 1 ≤ 200; omega) hsl fun T' m' nx' tk'' h' D' G => GoX.same m' (by kernel_rfl) D' G
theorem end2 (X : X2) (p : Pos) (nx tk : Nat) (hm : X.m = 0) (next : ∀ nx' tk' h', Rep (wsL (Dw.toLw ⟨⟨w0, b1, b2, sa, b, t0, its, n0, [], its'⟩, u, acc, na⟩).w) h₀ [349] (TE2 ⟨⟨w0, b1, b2, sa, b, t0, its, n0, [], its'⟩, u, acc, na⟩ X) nx' h' → R₁ (.ok .next) ⟨h', #[], d, tk', os⟩) :
    GoX (vb (V2 ⟨⟨w0, b1, b2, sa, b, t0, its, n0, [], its'⟩, u, acc, na⟩ X.ia) h₀ R₁ d os) (s2U ⟨⟨w0, b1, b2, sa, b, t0, its, n0, [], its'⟩, u, acc, na⟩ X p nx tk) := by
  obtain ⟨lc, ra, k1, v1, k2, v2, sl, cv, mi, tmi, md, tmd, hs, nh, turn, tu, ia', j, m', lc2, x0, tq, rest, tv, k3, v3, k4, v4, k5, v5⟩ := X
  dsimp only at hm
  subst hm
  cases b1
  · refine sx (by show 1 ≤ 2; decide) 15 563845054863885 (by kernel_rfl) (by kernel_rfl) ?_
    refine GoX.cutF [0, 1, 2, 3, 4, 5, 6, 7, 8, 9, 10, 11] (fun S => ⟨S.c, S.κ, S.t, S.p, TE2 ⟨⟨w0, false, b2, sa, b, t0, its, n0, [], its'⟩, u, acc, na⟩ ⟨lc, ra, k1, v1, k2, v2, sl, cv, mi, tmi, md, tmd, hs, nh, turn, tu, ia', j, 0, lc2, x0, tq, rest, tv, k3, v3, k4, v4, k5, v5⟩, 12, S.nx, S.tk⟩) (by kernel_rfl) (by kernel_rfl) (by kernel_rfl) (by decide) (by kernel_rfl) ?_
    exact GoX.done .next (by kernel_rfl) (by kernel_rfl) fun h' D => next _ _ h' D
  · refine sx (by show 1 ≤ 2; decide) 15 563845054863885 (by kernel_rfl) (by kernel_rfl) ?_
    refine GoX.cutF [0, 1, 2, 3, 4, 5, 6, 7, 8, 9, 10, 11] (fun S => ⟨S.c, S.κ, S.t, S.p, TE2 ⟨⟨w0, true, b2, sa, b, t0, its, n0, [], its'⟩, u, acc, na⟩ ⟨lc, ra, k1, v1, k2, v2, sl, cv, mi, tmi, md, tmd, hs, nh, turn, tu, ia', j, 0, lc2, x0, tq, rest, tv, k3, v3, k4, v4, k5, v5⟩, 12, S.nx, S.tk⟩) (by kernel_rfl) (by kernel_rfl) (by kernel_rfl) (by decide) (by kernel_rfl) ?_
    exact GoX.done .next (by kernel_rfl) (by kernel_rfl) fun h' D => next _ _ h' D
theorem loop2 (hc : Cells acc) (hl : acc.length ≤ 63) (ia : Nat) (mi : Int)
    (next : ∀ (X : X2) nx' tk' h', X.mi = mi → X.hs.length ≤ 10 → (X.sl = ⟨[]⟩ ∨ X.sl = slS b) → Rep (wsL (Dw.toLw ⟨⟨w0, b1, b2, sa, b, t0, its, n0, [], its'⟩, u, acc, na⟩).w) h₀ [349] (TE2 ⟨⟨w0, b1, b2, sa, b, t0, its, n0, [], its'⟩, u, acc, na⟩ X) nx' h' → R₁ (.ok .next) ⟨h', #[], d, tk', os⟩) (m : Nat) :
    ∀ (X : X2) (p : Pos) (nx tk : Nat), X.ia = ia → X.m = m → X.mi = mi → 0 ≤ X.turn → X.turn + 10 * m ≤ 700 → X.hs.length + m ≤ 10 → (X.sl = ⟨[]⟩ ∨ X.sl = slS b) → GoX (vb (V2 ⟨⟨w0, b1, b2, sa, b, t0, its, n0, [], its'⟩, u, acc, na⟩ ia) h₀ R₁ d os) (s2U ⟨⟨w0, b1, b2, sa, b, t0, its, n0, [], its'⟩, u, acc, na⟩ X p nx tk) := by
  induction m with
  | zero =>
    intro X p nx tk e1 e2 e3 h0 h1 hh hsl
    subst e1
    exact end2 h₀ R₁ d os w0 b1 b2 sa b t0 its n0 its' u acc na X p nx tk e2 fun nx' tk' h' D' => next X nx' tk' h' e3 (by omega) hsl D'
  | succ m ih =>
    intro X p nx tk e1 e2 e3 h0 h1 hh hsl
    obtain ⟨lc, ra, k1, v1, k2, v2, sl, cv, mi, tmi, md, tmd, hs, nh, turn, tu, ia', j, m', lc2, x0, tq, rest, tv, k3, v3, k4, v4, k5, v5⟩ := X
    dsimp only at e1 e2 e3 h0 h1 hh hsl
    subst e1 e2 e3
    refine turn2U h₀ R₁ d os w0 b1 b2 sa b t0 its n0 its' u acc na lc ra k1 v1 k2 v2 sl cv mi tmi md tmd hs nh turn tu ia' j m lc2 x0 tq rest tv k3 v3 k4 v4 k5 v5 p nx tk hc hl h0 (by omega) (by omega) hsl fun X p nx tk q1 q2 q3 q4 q5 q6 q7 => ?_
    exact ih X p nx tk q1 q2 q3 (by omega) (by omega) (by omega) q7
theorem first2 (hc : Cells acc) (hl : acc.length ≤ 63) (Y : X2) (p : Pos) (nx tk m : Nat) (hm1 : m ≤ 1) (hm : Y.m = m + 1) (hhs : Y.hs = []) (h0 : 0 ≤ Y.turn) (h1 : Y.turn ≤ 200) (hsl : Y.sl = ⟨[]⟩ ∨ Y.sl = slS b)
    (next : ∀ (X : X2) nx' tk' h', X.mi = Y.mi → X.hs.length ≤ 10 → (X.sl = ⟨[]⟩ ∨ X.sl = slS b) → Rep (wsL (Dw.toLw ⟨⟨w0, b1, b2, sa, b, t0, its, n0, [], its'⟩, u, acc, na⟩).w) h₀ [349] (TE2 ⟨⟨w0, b1, b2, sa, b, t0, its, n0, [], its'⟩, u, acc, na⟩ X) nx' h' → R₁ (.ok .next) ⟨h', #[], d, tk', os⟩) :
    GoX (vb (V2 ⟨⟨w0, b1, b2, sa, b, t0, its, n0, [], its'⟩, u, acc, na⟩ Y.ia) h₀ R₁ d os) (s2F ⟨⟨w0, b1, b2, sa, b, t0, its, n0, [], its'⟩, u, acc, na⟩ Y p nx tk) := by
  obtain ⟨lc, ra, k1, v1, k2, v2, sl, cv, mi, tmi, md, tmd, hs, nh, turn, tu, ia', j, m', lc2, x0, tq, rest, tv, k3, v3, k4, v4, k5, v5⟩ := Y
  dsimp only at hm hhs h0 h1 hsl
  subst hm
  refine turn2F h₀ R₁ d os w0 b1 b2 sa b t0 its n0 its' u acc na lc ra k1 v1 k2 v2 sl cv mi tmi md tmd hs nh turn tu ia' j m lc2 x0 tq rest tv k3 v3 k4 v4 k5 v5 p nx tk hc hl h0 (by omega) (by rw [hhs]; decide) hsl fun X p nx tk q1 q2 q3 q4 q5 q6 q7 => ?_
  rw [hhs] at q6
  have q6 : X.hs.length ≤ 1 := q6
  exact loop2 h₀ R₁ d os w0 b1 b2 sa b t0 its n0 its' u acc na hc hl ia' mi next m X p nx tk q1 q2 q3 (by omega) (by omega) (by omega) q7
theorem law_end (X : X2) (p : Pos) (nx tk : Nat) (hmi0 : 0 ≤ X.mi) (hmi : X.mi ≤ 1000) (hh : X.hs.length ≤ 10) (hsl : X.sl = ⟨[]⟩ ∨ X.sl = slS b)
    (next : ∀ T nx' tk' h', TabAt (T.get 0) → Rep (wsL (Dw.toLw ⟨⟨w0, b1, b2, sa, b, t0, its, n0, [], its'⟩, u, acc, na⟩).w) h₀ [349] T nx' h' → R₀ (.ok (.ret (.bool true))) ⟨h', #[], d, tk', os⟩) :
    GoX (vb (VL (Dw.toLw ⟨⟨w0, b1, b2, sa, b, t0, its, n0, [], its'⟩, u, acc, na⟩).w sa) h₀ R₀ d os) ⟨.func (fdB (st 40)) (lawEnv b), [], suf 5 b, pF2, TE2 ⟨⟨w0, b1, b2, sa, b, t0, its, n0, [], its'⟩, u, acc, na⟩ X, 12, nx, tk⟩ := by
  obtain ⟨lc, ra, k1, v1, k2, v2, sl, cv, mi, tmi, md, tmd, hs, nh, turn, tu, ia', j, m', lc2, x0, tq, rest, tv, k3, v3, k4, v4, k5, v5⟩ := X
  dsimp only at hmi0 hmi hh hsl
  have hps : ∀ p ∈ ([(true, 0, 10), (false, 2, 9)] : List Pt), PtOk p := by
    intro p hp
    simp only [List.mem_cons, List.not_mem_nil, or_false] at hp
    rcases hp with rfl | rfl
    · exact ⟨by decide, by decide, by decide⟩
    · exact ⟨by decide, by decide, by decide⟩
  rcases hsl with rfl | rfl
  · cases b1
    · refine sx (by show 1 ≤ 2; decide) 24 765638577095901128293241426135091773440 (by kernel_rfl) (by kernel_rfl) ?_
      refine GoX.len 10 (b + 27) hs nh (by kernel_rfl) (by omega) ?_
      refine sx (by show 1 ≤ 2; decide) 328 3218538112974167791419767897557389970458584059323372462584894908185365916018228625636030799787689441424643792171016582529168040423138810934173175877509872278220060761629072748221674093121259068050486467020921531813357132240412826817635797481938823449901994770985146268446137144436290725009370946155313072237922325924344411215887725868720660686643588817106604239392262615337450656007639140258547203 (by kernel_rfl) (by kernel_rfl) ?_
      refine GoX.read [(true, 0, 10), (false, 2, 9)] (by kernel_rfl) (by kernel_rfl) (by decide) (by decide) hps fun ba n bs nx2 tk2 hnd hmap hkq => ?_
      have hbl : bs.length = 2 := by have := congrArg List.length hmap; simpa using this
      have hbk : bdSize 1 bs = .ofNat 21474836470 := (size_eq bs [(true, 0, 10), (false, 2, 9)] 1 hmap).trans (by decide)
      have hbb : ∀ b ∈ bs, Builtin.Int.intBits (b.hi - b.lo + 1) ≤ 64 := by
        rcases bs with _ | ⟨c1, _ | ⟨c2, _ | ⟨c3, bs⟩⟩⟩ <;> simp only [List.length_cons, List.length_nil] at hbl <;> try omega
        simp only [List.map_cons, List.map_nil, List.cons.injEq, Prod.mk.injEq] at hmap
        obtain ⟨⟨e1, e2⟩, ⟨e3, e4⟩, _⟩ := hmap
        intro c hc
        simp only [List.mem_cons, List.not_mem_nil, or_false] at hc
        rcases hc with rfl | rfl
        · rw [e1, e2]; decide +kernel
        · rw [e3, e4]; decide +kernel
      refine sx (by show 1 ≤ 2; decide) 67 13427778706019317846925508425972356795521759713928612052034155498194365255574057777379869 (by kernel_rfl) (by kernel_rfl) ?_
      refine GoX.size ba n 21474836470 bs (by kernel_rfl) (by kernel_rfl) (by omega) (by omega) hbb hnd hkq hbk (P := (Dw.toLw ⟨⟨w0, false, b2, sa, b, t0, its, n0, [], its'⟩, u, acc, na⟩).w.params) (by kernel_rfl) fun u1 nx3 tk3 => ?_
      refine sx (by show 1 ≤ 2; decide) 22 2920679386504749787495580391445531 (by kernel_rfl) (by kernel_rfl) ?_
      refine GoX.igt (.ofNat 21474836470) mi true (by kernel_rfl) (decide_eq_true (by show mi < 21474836470; omega)) ?_
      refine sx (by show 1 ≤ 2; decide) 337 13865970681342269437406484158553759798339341782533531211691759212336522113831020517245023479758672255781216233626738578282825255212880801000833153153493896421647965473560982981163940444767794178559541873915997895982703090723344448001383536852673721173200314721482992886050109415635098728264896114479337786516902606450332538546748397516430111036453845079097090692467790831516177166270273347100955150269128408364935675372009668863815146003113314430300007124356591880725638685064000233785302728471217269623352639785583828033851410991732090472997226468411309994803200 (by kernel_rfl) (by kernel_rfl) ?_
      refine GoX.ine 23 23 false (by kernel_rfl) (by decide) ?_
      refine sx (by show 1 ≤ 2; decide) 23 765638577095901128293241426135091773440 (by kernel_rfl) (by kernel_rfl) ?_
      refine GoX.len 10 (b + 27) hs nh (by kernel_rfl) (by omega) ?_
      refine sx (by show 1 ≤ 2; decide) 5 3 (by kernel_rfl) (by kernel_rfl) ?_
      refine GoX.ine hs.length hs.length false (by kernel_rfl) (by simp) ?_
      refine sx (by show 1 ≤ 2; decide) 73 170832677257288865873831150932768516908017525363696817232544689792063902726 (by kernel_rfl) (by kernel_rfl) ?_
      refine GoX.deq 11 43 b u (by kernel_rfl) (by kernel_rfl) ?_
      refine sx (by show 1 ≤ 2; decide) 1 0 (by kernel_rfl) (by kernel_rfl) ?_
      refine GoX.less _ rfl ?_
      exact GoX.done (.ret (.bool true)) (by kernel_rfl) (by kernel_rfl) fun h' D => next _ _ _ h' (by unfold TabAt; kernel_rfl) D
    · refine sx (by show 1 ≤ 2; decide) 24 765638577095901128293241426135091773440 (by kernel_rfl) (by kernel_rfl) ?_
      refine GoX.len 10 (b + 27) hs nh (by kernel_rfl) (by omega) ?_
      refine sx (by show 1 ≤ 2; decide) 328 3218538112974167791419767897557389970458584059323372462584894908185365916018228625636030799787689441424643792171016582529168040423138810934173175877509872278220060761629072748221674093121259068050486467020921531813357132240412826817635797481938823449901994770985146268446137144436290725009370946155313072237922325924344411215887725868720660686643588817106604239392262615337450656007639140258547203 (by kernel_rfl) (by kernel_rfl) ?_
      refine GoX.read [(true, 0, 10), (false, 2, 9)] (by kernel_rfl) (by kernel_rfl) (by decide) (by decide) hps fun ba n bs nx2 tk2 hnd hmap hkq => ?_
      have hbl : bs.length = 2 := by have := congrArg List.length hmap; simpa using this
      have hbk : bdSize 1 bs = .ofNat 21474836470 := (size_eq bs [(true, 0, 10), (false, 2, 9)] 1 hmap).trans (by decide)
      have hbb : ∀ b ∈ bs, Builtin.Int.intBits (b.hi - b.lo + 1) ≤ 64 := by
        rcases bs with _ | ⟨c1, _ | ⟨c2, _ | ⟨c3, bs⟩⟩⟩ <;> simp only [List.length_cons, List.length_nil] at hbl <;> try omega
        simp only [List.map_cons, List.map_nil, List.cons.injEq, Prod.mk.injEq] at hmap
        obtain ⟨⟨e1, e2⟩, ⟨e3, e4⟩, _⟩ := hmap
        intro c hc
        simp only [List.mem_cons, List.not_mem_nil, or_false] at hc
        rcases hc with rfl | rfl
        · rw [e1, e2]; decide +kernel
        · rw [e3, e4]; decide +kernel
      refine sx (by show 1 ≤ 2; decide) 67 13427778706019317846925508425972356795521759713928612052034155498194365255574057777379869 (by kernel_rfl) (by kernel_rfl) ?_
      refine GoX.size ba n 21474836470 bs (by kernel_rfl) (by kernel_rfl) (by omega) (by omega) hbb hnd hkq hbk (P := (Dw.toLw ⟨⟨w0, true, b2, sa, b, t0, its, n0, [], its'⟩, u, acc, na⟩).w.params) (by kernel_rfl) fun u1 nx3 tk3 => ?_
      refine sx (by show 1 ≤ 2; decide) 22 2920679386504749787495580391445531 (by kernel_rfl) (by kernel_rfl) ?_
      refine GoX.igt (.ofNat 21474836470) mi true (by kernel_rfl) (decide_eq_true (by show mi < 21474836470; omega)) ?_
      refine sx (by show 1 ≤ 2; decide) 337 13865970681342269437406484158553759798339341782533531211691759212336522113831020517245023479758672255781216233626738578282825255212880801000833153153493896421647965473560982981163940444767794178559541873915997895982703090723344448001383536852673721173200314721482992886050109415635098728264896114479337786516902606450332538546748397516430111036453845079097090692467790831516177166270273347100955150269128408364935675372009668863815146003113314430300007124356591880725638685064000233785302728471217269623352639785583828033851410991732090472997226468411309994803200 (by kernel_rfl) (by kernel_rfl) ?_
      refine GoX.ine 23 23 false (by kernel_rfl) (by decide) ?_
      refine sx (by show 1 ≤ 2; decide) 23 765638577095901128293241426135091773440 (by kernel_rfl) (by kernel_rfl) ?_
      refine GoX.len 10 (b + 27) hs nh (by kernel_rfl) (by omega) ?_
      refine sx (by show 1 ≤ 2; decide) 5 3 (by kernel_rfl) (by kernel_rfl) ?_
      refine GoX.ine hs.length hs.length false (by kernel_rfl) (by simp) ?_
      refine sx (by show 1 ≤ 2; decide) 73 170832677257288865873831150932768516908017525363696817232544689792063902726 (by kernel_rfl) (by kernel_rfl) ?_
      refine GoX.deq 11 43 b u (by kernel_rfl) (by kernel_rfl) ?_
      refine sx (by show 1 ≤ 2; decide) 1 0 (by kernel_rfl) (by kernel_rfl) ?_
      refine GoX.less _ rfl ?_
      exact GoX.done (.ret (.bool true)) (by kernel_rfl) (by kernel_rfl) fun h' D => next _ _ _ h' (by unfold TabAt; kernel_rfl) D
  · cases b1
    · refine sx (by show 1 ≤ 2; decide) 24 765638577095901128293241426135091773440 (by kernel_rfl) (by kernel_rfl) ?_
      refine GoX.len 10 (b + 27) hs nh (by kernel_rfl) (by omega) ?_
      refine sx (by show 1 ≤ 2; decide) 328 3218538112974167791419767897557389970458584059323372462584894908185365916018228625636030799787689441424643792171016582529168040423138810934173175877509872278220060761629072748221674093121259068050486467020921531813357132240412826817635797481938823449901994770985146268446137144436290725009370946155313072237922325924344411215887725868720660686643588817106604239392262615337450656007639140258547203 (by kernel_rfl) (by kernel_rfl) ?_
      refine GoX.read [(true, 0, 10), (false, 2, 9)] (by kernel_rfl) (by kernel_rfl) (by decide) (by decide) hps fun ba n bs nx2 tk2 hnd hmap hkq => ?_
      have hbl : bs.length = 2 := by have := congrArg List.length hmap; simpa using this
      have hbk : bdSize 1 bs = .ofNat 21474836470 := (size_eq bs [(true, 0, 10), (false, 2, 9)] 1 hmap).trans (by decide)
      have hbb : ∀ b ∈ bs, Builtin.Int.intBits (b.hi - b.lo + 1) ≤ 64 := by
        rcases bs with _ | ⟨c1, _ | ⟨c2, _ | ⟨c3, bs⟩⟩⟩ <;> simp only [List.length_cons, List.length_nil] at hbl <;> try omega
        simp only [List.map_cons, List.map_nil, List.cons.injEq, Prod.mk.injEq] at hmap
        obtain ⟨⟨e1, e2⟩, ⟨e3, e4⟩, _⟩ := hmap
        intro c hc
        simp only [List.mem_cons, List.not_mem_nil, or_false] at hc
        rcases hc with rfl | rfl
        · rw [e1, e2]; decide +kernel
        · rw [e3, e4]; decide +kernel
      refine sx (by show 1 ≤ 2; decide) 67 13427778706019317846925508425972356795521759713928612052034155498194365255574057777379869 (by kernel_rfl) (by kernel_rfl) ?_
      refine GoX.size ba n 21474836470 bs (by kernel_rfl) (by kernel_rfl) (by omega) (by omega) hbb hnd hkq hbk (P := (Dw.toLw ⟨⟨w0, false, b2, sa, b, t0, its, n0, [], its'⟩, u, acc, na⟩).w.params) (by kernel_rfl) fun u1 nx3 tk3 => ?_
      refine sx (by show 1 ≤ 2; decide) 22 2920679386504749787495580391445531 (by kernel_rfl) (by kernel_rfl) ?_
      refine GoX.igt (.ofNat 21474836470) mi true (by kernel_rfl) (decide_eq_true (by show mi < 21474836470; omega)) ?_
      refine sx (by show 1 ≤ 2; decide) 335 27081973986996619994934539372175312106131526919010803147835467211594769753576211947744186483903656749572687956302223785708643076587657814454752252252917766448531182565548794885085821181189760306584797549625067617218401308816841530524851080625239554714567268150848340306892435572439364500565782291867827567660007065057554895254610913171311109640798092652088271629908727952764091968717271496838209291269470562082676776127078898289378869596676816584527713649657064191248690258341785320704611070830755134142408609728182730234560877156966522821919193455911544553472 (by kernel_rfl) (by kernel_rfl) ?_
      refine GoX.ine 23 23 false (by kernel_rfl) (by decide) ?_
      refine sx (by show 1 ≤ 2; decide) 23 765638577095901128293241426135091773440 (by kernel_rfl) (by kernel_rfl) ?_
      refine GoX.len 10 (b + 27) hs nh (by kernel_rfl) (by omega) ?_
      refine sx (by show 1 ≤ 2; decide) 5 3 (by kernel_rfl) (by kernel_rfl) ?_
      refine GoX.ine hs.length hs.length false (by kernel_rfl) (by simp) ?_
      refine sx (by show 1 ≤ 2; decide) 73 170832677257288865873831150932768516908017525363696817232544689792063902726 (by kernel_rfl) (by kernel_rfl) ?_
      refine GoX.deq 11 43 b u (by kernel_rfl) (by kernel_rfl) ?_
      refine sx (by show 1 ≤ 2; decide) 1 0 (by kernel_rfl) (by kernel_rfl) ?_
      refine GoX.less _ rfl ?_
      exact GoX.done (.ret (.bool true)) (by kernel_rfl) (by kernel_rfl) fun h' D => next _ _ _ h' (by unfold TabAt; kernel_rfl) D
    · refine sx (by show 1 ≤ 2; decide) 24 765638577095901128293241426135091773440 (by kernel_rfl) (by kernel_rfl) ?_
      refine GoX.len 10 (b + 27) hs nh (by kernel_rfl) (by omega) ?_
      refine sx (by show 1 ≤ 2; decide) 328 3218538112974167791419767897557389970458584059323372462584894908185365916018228625636030799787689441424643792171016582529168040423138810934173175877509872278220060761629072748221674093121259068050486467020921531813357132240412826817635797481938823449901994770985146268446137144436290725009370946155313072237922325924344411215887725868720660686643588817106604239392262615337450656007639140258547203 (by kernel_rfl) (by kernel_rfl) ?_
      refine GoX.read [(true, 0, 10), (false, 2, 9)] (by kernel_rfl) (by kernel_rfl) (by decide) (by decide) hps fun ba n bs nx2 tk2 hnd hmap hkq => ?_
      have hbl : bs.length = 2 := by have := congrArg List.length hmap; simpa using this
      have hbk : bdSize 1 bs = .ofNat 21474836470 := (size_eq bs [(true, 0, 10), (false, 2, 9)] 1 hmap).trans (by decide)
      have hbb : ∀ b ∈ bs, Builtin.Int.intBits (b.hi - b.lo + 1) ≤ 64 := by
        rcases bs with _ | ⟨c1, _ | ⟨c2, _ | ⟨c3, bs⟩⟩⟩ <;> simp only [List.length_cons, List.length_nil] at hbl <;> try omega
        simp only [List.map_cons, List.map_nil, List.cons.injEq, Prod.mk.injEq] at hmap
        obtain ⟨⟨e1, e2⟩, ⟨e3, e4⟩, _⟩ := hmap
        intro c hc
        simp only [List.mem_cons, List.not_mem_nil, or_false] at hc
        rcases hc with rfl | rfl
        · rw [e1, e2]; decide +kernel
        · rw [e3, e4]; decide +kernel
      refine sx (by show 1 ≤ 2; decide) 67 13427778706019317846925508425972356795521759713928612052034155498194365255574057777379869 (by kernel_rfl) (by kernel_rfl) ?_
      refine GoX.size ba n 21474836470 bs (by kernel_rfl) (by kernel_rfl) (by omega) (by omega) hbb hnd hkq hbk (P := (Dw.toLw ⟨⟨w0, true, b2, sa, b, t0, its, n0, [], its'⟩, u, acc, na⟩).w.params) (by kernel_rfl) fun u1 nx3 tk3 => ?_
      refine sx (by show 1 ≤ 2; decide) 22 2920679386504749787495580391445531 (by kernel_rfl) (by kernel_rfl) ?_
      refine GoX.igt (.ofNat 21474836470) mi true (by kernel_rfl) (decide_eq_true (by show mi < 21474836470; omega)) ?_
      refine sx (by show 1 ≤ 2; decide) 335 27081973986996619994934539372175312106131526919010803147835467211594769753576211947744186483903656749572687956302223785708643076587657814454752252252917766448531182565548794885085821181189760306584797549625067617218401308816841530524851080625239554714567268150848340306892435572439364500565782291867827567660007065057554895254610913171311109640798092652088271629908727952764091968717271496838209291269470562082676776127078898289378869596676816584527713649657064191248690258341785320704611070830755134142408609728182730234560877156966522821919193455911544553472 (by kernel_rfl) (by kernel_rfl) ?_
      refine GoX.ine 23 23 false (by kernel_rfl) (by decide) ?_
      refine sx (by show 1 ≤ 2; decide) 23 765638577095901128293241426135091773440 (by kernel_rfl) (by kernel_rfl) ?_
      refine GoX.len 10 (b + 27) hs nh (by kernel_rfl) (by omega) ?_
      refine sx (by show 1 ≤ 2; decide) 5 3 (by kernel_rfl) (by kernel_rfl) ?_
      refine GoX.ine hs.length hs.length false (by kernel_rfl) (by simp) ?_
      refine sx (by show 1 ≤ 2; decide) 73 170832677257288865873831150932768516908017525363696817232544689792063902726 (by kernel_rfl) (by kernel_rfl) ?_
      refine GoX.deq 11 43 b u (by kernel_rfl) (by kernel_rfl) ?_
      refine sx (by show 1 ≤ 2; decide) 1 0 (by kernel_rfl) (by kernel_rfl) ?_
      refine GoX.less _ rfl ?_
      exact GoX.done (.ret (.bool true)) (by kernel_rfl) (by kernel_rfl) fun h' D => next _ _ _ h' (by unfold TabAt; kernel_rfl) D
end
end Mine
end
section
namespace Mine
/-- the law's call, whole: it hands True back -/
theorem law_run (L : Lw) (h₀ : Heap) (R₀ : Result → Shared → Prop) (d : Drawn) (os : OsState) (htv : L.tv = []) (hI : L.its' = L.its.take 24) (hv : ∀ v ∈ L.its, ∃ k t, v = .int k t) (hn : L.its.length ≤ 63)
    (fin : ∀ T nx' tk' h', TabAt (T.get 0) → Rep (wsL L.w) h₀ [349] T nx' h' → R₀ (.ok (.ret (.bool true))) ⟨h', #[], d, tk', os⟩) : GoX (vb (VL L.w L.sa) h₀ R₀ d os) (sL0 L) := by
  refine law_start L h₀ R₀ d os hI hv hn fun i acc x dd dt sl tk h hc hl D => ?_
  refine law_to_for L h₀ R₀ d os i acc x dd dt sl tk h hc hl D fun D1 hD hc1 hl1 R₁ turn tu ia tk' nx m hm0 hm3 ht0 ht1 hR => ?_
  obtain ⟨w0, b1, b2, sa, b, t0, its, n0, tv, its'⟩ := L
  obtain ⟨L', u, acc1, na⟩ := D1
  dsimp only at hD hc1 hl1 htv hI hv hn
  subst hD htv
  obtain ⟨m, rfl⟩ : ∃ k, m = k + 1 := ⟨m - 1, by omega⟩
  have nx1 : ∀ (X : T1) nx' tk' h', X.ia = ia → 0 ≤ X.turn → X.turn ≤ 100 → (X.sl = ⟨[]⟩ ∨ X.sl = slS b) → Rep (wsL (Dw.toLw ⟨⟨w0, b1, b2, sa, b, t0, its, n0, [], its'⟩, u, acc1, na⟩).w) h₀ [349] (TB ⟨⟨w0, b1, b2, sa, b, t0, its, n0, [], its'⟩, u, acc1, na⟩ X) nx' h' → R₁ (.ok .next) ⟨h', #[], d, tk', os⟩ := by
    intro X nx' tk' h' _ hx0 hx1 hsl DX
    obtain ⟨turn', tu', ia', j', m', lc, x0, tq, rest, ra, nr, rs, no, os', cv, k1, v1, k2, v2, sl'⟩ := X
    refine hR _ 12 nx' tk' h' DX ?_
    refine law_mid h₀ R₀ d os w0 b1 b2 sa b t0 its n0 its' u acc1 na turn' tu' ia' j' m' lc x0 tq rest ra nr rs no os' cv k1 v1 k2 v2 sl' nx' tk' hc1 (by omega) hx0 hx1 hsl fun R₂ Y m2 nx2 tk2 hm1 hYm hYh hmi0 hmi1 hY0 hY1 hYs hR2 => ?_
    refine first2 h₀ R₂ d os w0 b1 b2 sa b t0 its n0 its' u acc1 na hc1 (by omega) Y pF2 nx2 tk2 m2 hm1 hYm hYh hY0 hY1 hYs fun X3 nx3 tk3 h3 hmi hhs hsl3 D3 => ?_
    refine hR2 _ 12 nx3 tk3 h3 D3 ?_
    exact law_end h₀ R₀ d os w0 b1 b2 sa b t0 its n0 its' u acc1 na X3 pF2 nx3 tk3 (by rw [hmi]; exact hmi0) (by rw [hmi]; exact hmi1) hhs hsl3 fin
  exact first h₀ R₁ d os w0 b1 b2 sa b t0 its n0 its' u acc1 na hc1 hl1 ia nx1 turn tu m pF1 nx tk' (by omega) ht0 ht1
end Mine
end
section
namespace Mine
/-! the top's run: a ledger by the address itself -/
structure TT where
  T : LT
  nx : Nat
  tk : Nat
  t : Thread
noncomputable def keptC (c code : Code) (l : List Value) : List Value := match c, code with
  | .builtin _ a, _ => unmarked a.refs
  | .call f a, .builtin .. | .call f a, .call .. => unmarked (if l.contains borrowed then a.refs else f :: a.refs)
  | _, _ => []
noncomputable def actT (den : Code → Sem PySem.Fin) (p : Program) (P : Params) (n₀ : Nat) (go : TT → Option TT) : TT → Option TT
  | ⟨T, nx, tk, ⟨cur, code, pos, stack⟩⟩ => match cur with
      | .pure fin => match fin with
        | .again c => match stack with
          | .ret k h g l cd q kept :: rest => go ⟨T, nx, tk, ⟨den c, c, pos, .ret k h g l cd q (keptBy code c l kept) :: rest⟩⟩
          | _ => none
        | .done f => match stack with
          | .ret k _ _ _ c q _ :: rest => go ⟨T, nx, tk, ⟨k (.ok f), c, q, rest⟩⟩
          | _ => none
      | .raise e => match stack with
        | .ret k _ _ _ c q _ :: rest => go ⟨T, nx, tk, ⟨k (.error e), c, q, rest⟩⟩
        | _ => none
      | .rule _ k => go ⟨T, nx, tk, ⟨k (), code, pos, stack⟩⟩
      | .at q k => go ⟨T, nx, tk, ⟨k (), code, q, stack⟩⟩
      | .point _ k => go ⟨T, nx, tk, ⟨k (), code, pos, stack⟩⟩
      | .fresh k => go ⟨T, nx, tk + 1, ⟨k tk, code, pos, stack⟩⟩
      | .ask k => go ⟨T, nx, tk, ⟨k ⟨p, P⟩, code, pos, stack⟩⟩
      | .thread k => go ⟨T, nx, tk, ⟨k 0, code, pos, stack⟩⟩
      | .stack k => go ⟨T, nx, tk, ⟨k ((code, pos) :: stack.map Frame.where_), code, pos, stack⟩⟩
      | .handled own k => go ⟨T, nx, tk, ⟨k (topHandled (if own then (match splitAtGen stack with | some (fs, _, _) => fs | none => stack) else stack)), code, pos, stack⟩⟩
      | .load a _ k => match T.get a with
        | some x => go ⟨T, nx, tk, ⟨k x.2, code, pos, stack⟩⟩
        | none => none
      | .loadIfAlive a k => match T.get a with
        | some x => go ⟨T, nx, tk, ⟨k (some x.2), code, pos, stack⟩⟩
        | none => none
      | .alloc o k => match o.isFreed with
        | true => none
        | false => objK o fun o => T.putK nx nx o fun T' => match T'.get nx with
          | some _ => go ⟨T', nx + 1, tk, ⟨k nx, code, pos, stack⟩⟩
          | none => none
      | .update a _ f k => match Nat.ble n₀ a || Nat.beq a mainNs || Nat.beq a cStatics with
        | false => none
        | true => match T.get a with
          | none => none
          | some x => match (f x.2).isFreed with
            | true => none
            | false => objK (f x.2) fun o => T.putK a a o fun T' => go ⟨T', nx, tk, ⟨k (), code, pos, stack⟩⟩
      | .call c h g l k => go ⟨T, nx, tk, ⟨den c, c, pos, .ret k h g l code pos (keptC c code l) :: stack⟩⟩
      | _ => none
noncomputable def runT (den : Code → Sem PySem.Fin) (p : Program) (P : Params) (n₀ : Nat) : Nat → TT → Option TT
  | 0, X => some X
  | n + 1, X => match X.t.calm with
    | true => actT den p P n₀ (runT den p P n₀ n) X
    | false => none
/-- what a ledger says of a heap -/
structure RT (T : LT) (nx : Nat) (h : Heap) : Prop where
  size : h.objs.size = nx
  own : ∀ a b o, T.get a = some (b, o) → h.get? a = some o
theorem top_step {p : Program} {w : World} {n₀ : Nat} {ann : Option Value} {M : Nat} {s s' : Shared} {t t' : Thread} (ht : through t = false) (hk : stepOk n₀ ann t = true) (hs : step (denote table) p w s t = .go s' t') :
    topRun table p w n₀ ann (M + 1) s t = topRun table p w n₀ ann M s' t' := by
  rw [topRun, ht, hk, hs]
section
variable {p : Program} {w : World} {n₀ : Nat} {ann : Option Value} {dr : Drawn} {os : OsState}
/-- from X the top comes to Y -/
noncomputable def Gets (p : Program) (w : World) (n₀ : Nat) (ann : Option Value) (dr : Drawn) (os : OsState) (Y : TT) (h : Heap) (tk : Nat) (t : Thread) : Prop :=
  ∃ h', RT Y.T Y.nx h' ∧ ∃ n, ∀ M, topRun table p w n₀ ann (n + M) ⟨h, #[], dr, tk, os⟩ t = topRun table p w n₀ ann M ⟨h', #[], dr, Y.tk, os⟩ Y.t
noncomputable def GetsX (p : Program) (w : World) (n₀ : Nat) (ann : Option Value) (dr : Drawn) (os : OsState) (Y X : TT) : Prop := ∀ h, RT X.T X.nx h → Gets p w n₀ ann dr os Y h X.tk X.t
theorem Gets.go {Y X2 : TT} {h h2 : Heap} {tk : Nat} {t : Thread} (r : GetsX p w n₀ ann dr os Y X2) (D : RT X2.T X2.nx h2) (ht : through t = false) (hk : stepOk n₀ ann t = true)
    (hs : step (denote table) p w ⟨h, #[], dr, tk, os⟩ t = .go ⟨h2, #[], dr, X2.tk, os⟩ X2.t) : Gets p w n₀ ann dr os Y h tk t := by
  obtain ⟨h', D', n, H⟩ := r h2 D
  refine ⟨h', D', n + 1, fun M => ?_⟩
  rw [show n + 1 + M = n + M + 1 by omega, top_step ht hk hs]
  exact H M
theorem RT.put {T : LT} {nx a : Nat} {h : Heap} (D : RT T nx h) {x : Nat × Obj} (g : T.get a = some x) (f : Obj → Obj) (hf : (f x.2).isFreed = false) : RT (T.put a a (f x.2)) nx (h.update a f) := by
  have G := LT.get_put a (f x.2) T a (LT.get_put_some a (f x.2) T a (by rw [g]; rfl))
  have hs : Heap.SameBut a h (h.update a f) := Heap.SameBut.update ..
  refine ⟨hs.1.trans D.size, fun c b o' e' => ?_⟩
  rw [G] at e'
  by_cases hc : c = a
  · rw [if_pos hc] at e'
    cases e'
    rw [hc]
    exact Heap.get?_update_self f (D.own a x.1 x.2 g) hf
  · rw [if_neg hc] at e'
    exact (hs.2 c hc).trans (D.own c b o' e')
theorem RT.push {T : LT} {i : Nat} {h : Heap} (D : RT T i h) {o : Obj} (hf : o.isFreed = false) {x : Nat × Obj} (g : (T.put i i o).get i = some x) : RT (T.put i i o) (i + 1) (h.push o) := by
  have G := LT.get_put i o T i (by rw [g]; rfl)
  have hsz : h.objs.size = i := D.size
  refine ⟨(Heap.size_push ..).trans (congrArg Nat.succ hsz), fun a b o' e' => ?_⟩
  rw [G] at e'
  by_cases ha : a = i
  · rw [if_pos ha] at e'
    cases e'
    rw [ha, ← hsz]
    exact Heap.get?_push_size _ hf
  · rw [if_neg ha] at e'
    exact Heap.get?_push_of_some _ (D.own a b o' e')
theorem act_load {h : Heap} {a : Nat} {o : Obj} (e : h.get? a = some o) (q : Option Value) (k : Obj → Sem PySem.Fin) (code : Code) (pos : Pos) (st : List Frame) (tk : Nat) :
    step (denote table) p w ⟨h, #[], dr, tk, os⟩ ⟨.load a q k, code, pos, st⟩ = .go ⟨h, #[], dr, tk, os⟩ ⟨k o, code, pos, st⟩ := by
  show (match h.get? a with | some o => _ | none => _) = _
  rw [e]
theorem act_update {h : Heap} {a : Nat} {o : Obj} (e : h.get? a = some o) (q : Option Value) (f : Obj → Obj) (k : Unit → Sem PySem.Fin) (code : Code) (pos : Pos) (st : List Frame) (tk : Nat) :
    step (denote table) p w ⟨h, #[], dr, tk, os⟩ ⟨.update a q f k, code, pos, st⟩ = .go ⟨h.update a f, #[], dr, tk, os⟩ ⟨k (), code, pos, st⟩ := by
  show (if (h.get? a).isSome then _ else _) = _
  rw [e]; rfl
theorem topAct_sound {go : TT → Option TT} {Y : TT} (ih : ∀ X, go X = some Y → GetsX p w n₀ ann dr os Y X) (X : TT) (hc : X.t.calm = true) (e : actT (denote table) p w.params n₀ go X = some Y) : GetsX p w n₀ ann dr os Y X := by
  intro h D
  obtain ⟨T, nx, tk, cur, code, pos, stack⟩ := X
  have ok : (Thread.calm ⟨cur, code, pos, stack⟩ && true) = true := by rw [show Thread.calm ⟨cur, code, pos, stack⟩ = true from hc]; rfl
  cases cur with
  | pure fin =>
    cases fin with
    | done f =>
      cases stack with
      | nil => cases e
      | cons x rest => cases x with
        | gen => cases e
        | ret k hd g l c q kept => exact .go (ih _ e) D rfl ok rfl
    | again c =>
      cases stack with
      | nil => cases e
      | cons x rest => cases x with
        | gen => cases e
        | ret k hd g l cd q kept => exact .go (ih _ e) D rfl ok step_again
  | raise v =>
    cases stack with
    | nil => cases e
    | cons x rest => cases x with
      | gen => cases e
      | ret k hd g l c q kept => exact .go (ih _ e) D rfl ok rfl
  | rule tag k => exact .go (ih _ e) D (Bool.and_false _) ok rfl
  | «at» q k => exact .go (ih _ e) D (Bool.and_false _) ok rfl
  | point l k => exact .go (ih _ e) D (Bool.and_false _) ok rfl
  | fresh k => exact .go (ih _ e) D (Bool.and_false _) ok rfl
  | ask k => exact .go (ih _ e) D (Bool.and_false _) ok rfl
  | thread k => exact .go (ih _ e) D (Bool.and_false _) ok rfl
  | stack k => exact .go (ih _ e) D (Bool.and_false _) ok rfl
  | handled own k => exact .go (ih _ e) D (Bool.and_false _) ok rfl
  | load a q k =>
    have e : (match T.get a with | some x => go ⟨T, nx, tk, ⟨k x.2, code, pos, stack⟩⟩ | none => none) = some Y := e
    cases g : T.get a with
    | none => rw [g] at e; cases e
    | some x => rw [g] at e; exact .go (ih _ e) D (Bool.and_false _) ok (act_load (D.own a x.1 x.2 g) ..)
  | loadIfAlive a k =>
    have e : (match T.get a with | some x => go ⟨T, nx, tk, ⟨k (some x.2), code, pos, stack⟩⟩ | none => none) = some Y := e
    cases g : T.get a with
    | none => rw [g] at e; cases e
    | some x =>
      rw [g] at e
      refine .go (ih _ e) D (Bool.and_false _) ok ?_
      show Step.go _ (⟨k (h.get? a), code, pos, stack⟩ : Thread) = _
      rw [D.own a x.1 x.2 g]
  | alloc o k =>
    have e : (match o.isFreed with | true => none | false => objK o fun o => T.putK nx nx o fun T' => match T'.get nx with | some _ => go ⟨T', nx + 1, tk, ⟨k nx, code, pos, stack⟩⟩ | none => none) = some Y := e
    cases hf : o.isFreed with
    | true => rw [hf] at e; cases e
    | false =>
      rw [hf] at e
      have e := e
      rw [objK_eq, LT.putK_eq] at e
      cases g : (T.put nx nx o).get nx with
      | none => rw [g] at e; cases e
      | some x =>
        rw [g] at e
        have hs : h.objs.size = nx := D.size
        subst hs
        exact .go (ih _ e) (D.push hf g) (Bool.and_false _) ok rfl
  | update a q f k =>
    have e : (match Nat.ble n₀ a || Nat.beq a mainNs || Nat.beq a cStatics with | false => none | true => match T.get a with | none => none | some x => match (f x.2).isFreed with | true => none | false => objK (f x.2) fun o => T.putK a a o fun T' => go ⟨T', nx, tk, ⟨k (), code, pos, stack⟩⟩) = some Y := e
    cases hb : (Nat.ble n₀ a || Nat.beq a mainNs || Nat.beq a cStatics) with
    | false => rw [hb] at e; cases e
    | true =>
      rw [hb] at e
      have e : (match T.get a with | none => none | some x => match (f x.2).isFreed with | true => none | false => objK (f x.2) fun o => T.putK a a o fun T' => go ⟨T', nx, tk, ⟨k (), code, pos, stack⟩⟩) = some Y := e
      cases g : T.get a with
      | none => rw [g] at e; cases e
      | some x =>
        rw [g] at e
        have e : (match (f x.2).isFreed with | true => none | false => objK (f x.2) fun o => T.putK a a o fun T' => go ⟨T', nx, tk, ⟨k (), code, pos, stack⟩⟩) = some Y := e
        cases hf : (f x.2).isFreed with
        | true => rw [hf] at e; cases e
        | false =>
          rw [hf] at e
          have e : (objK (f x.2) fun o => T.putK a a o fun T' => go ⟨T', nx, tk, ⟨k (), code, pos, stack⟩⟩) = some Y := e
          rw [objK_eq, LT.putK_eq] at e
          refine .go (ih _ e) (D.put g f hf) (Bool.and_false _) ?_ (act_update (D.own a x.1 x.2 g) ..)
          have e1 : ∀ x y : Nat, (x == y) = Nat.beq x y := fun x y => by rw [BT.beq_eq]; rfl
          show (Thread.calm _ && (Nat.ble n₀ a || a == mainNs || a == cStatics || ann == some (.ref a))) = true
          rw [e1, e1, hb]; exact ok
  | call c hd g l k => exact .go (ih _ e) D (Bool.and_false _) ok rfl
  | _ => cases e
theorem runT_sound : ∀ (n : Nat) (X Y : TT), runT (denote table) p w.params n₀ n X = some Y → GetsX p w n₀ ann dr os Y X
  | 0, X, Y, e => by
    cases e
    exact fun h D => ⟨h, D, 0, fun M => by rw [Nat.zero_add]⟩
  | n + 1, X, Y, e => by
    have e : (match X.t.calm with | true => actT (denote table) p w.params n₀ (runT (denote table) p w.params n₀ n) X | false => none) = some Y := e
    cases hc : X.t.calm with
    | false => rw [hc] at e; cases e
    | true => rw [hc] at e; exact topAct_sound (fun X' e' => runT_sound n X' Y e') X hc e
end
end Mine
end
section
namespace Mine
abbrev PW : Program := PySem.Challenge.pw_pf0369_01
/-! what is looked at when the top has run -/
noncomputable def rowsT (T : LT) : Nat → Nat → Option (List Obj)
  | 0, _ => some []
  | n + 1, i => match T.get i with
    | some x => match rowsT T n (i + 1) with
      | some l => some (x.2 :: l)
      | none => none
    | none => none
theorem rowsT_ok {T : LT} {nx : Nat} {h : Heap} (D : RT T nx h) : ∀ (n i : Nat) (l : List Obj), rowsT T n i = some l → l.length = n ∧ ∀ j, j < n → h.objs[i + j]? = l[j]?
  | 0, i, l, e => by cases e; exact ⟨rfl, fun j hj => absurd hj (Nat.not_lt_zero _)⟩
  | n + 1, i, l, e => by
    unfold rowsT at e
    cases g : T.get i with
    | none => rw [g] at e; cases e
    | some x =>
      rw [g] at e
      dsimp only at e
      cases r : rowsT T n (i + 1) with
      | none => rw [r] at e; cases e
      | some l' =>
        rw [r] at e
        cases e
        obtain ⟨h1, h2⟩ := rowsT_ok D n (i + 1) l' r
        refine ⟨by rw [List.length_cons, h1], fun j hj => ?_⟩
        cases j with
        | zero =>
          have := D.own i x.1 x.2 g
          rw [Heap.get?_some_iff] at this
          exact this.1
        | succ j =>
          rw [List.getElem?_cons_succ, ← h2 j (Nat.lt_of_succ_lt_succ hj)]
          congr 1; omega
theorem rowsT_objs {T : LT} {nx : Nat} {h : Heap} (D : RT T nx h) {l : List Obj} (e : rowsT T nx 0 = some l) : h.objs = ⟨l⟩ := by
  obtain ⟨h1, h2⟩ := rowsT_ok D nx 0 l e
  refine Array.ext' (List.ext_getElem? fun j => ?_)
  show h.objs.toList[j]? = l[j]?
  rw [Array.getElem?_toList]
  by_cases hj : j < nx
  · rw [← h2 j hj, Nat.zero_add]
  · rw [List.getElem?_eq_none (by rw [h1]; omega), Array.getElem?_eq_none (by rw [D.size]; omega)]
noncomputable def ktG (T : LT) : Nat → Nat → KT → KT
  | _, _, .nil => .nil
  | s, b, .node v l r => .node (match v with | some _ => (match T.get b with | some x => some x.2 | none => none) | none => none) (ktG T (2 * s) (s + b) l) (ktG T (2 * s) (2 * s + b) r)
theorem ktG_ok {T : LT} {nx : Nat} {h : Heap} (D : RT T nx h) : ∀ (t : KT) (s b : Nat), ktG T s b t = t → KT.Holds h s b t
  | .nil, _, _, _ => trivial
  | .node v l r, s, b, e => by
    unfold ktG at e
    injection e with e1 e2 e3
    refine ⟨fun o ho => ?_, ktG_ok D l _ _ e2, ktG_ok D r _ _ e3⟩
    subst ho
    dsimp only at e1
    cases g : T.get b with
    | none => rw [g] at e1; cases e1
    | some x =>
      rw [g] at e1
      cases e1
      exact D.own b x.1 x.2 g
noncomputable def goodC (hb : Heap) (p : Program) (hp : Heap) : Bool :=
  staticsOk (importedModules p.main.body) hb hp && namesBound p hp && laidKept hb hp && hp.accountedOkI (importedModules p.main.body) && hp.isNs mainGlobals && hp.isNs builtinsNs && hp.bmainOk && hb.isNs mainGlobals
noncomputable def obsC (hb : Heap) (p : Program) (K : KT) (Y : TT) : Option (Bool × Nat × (Option Str × List (Str × Value)) × Option Value × Option (Nat × Obj) × KT) :=
  match rowsT Y.T 353 0 with
  | none => none
  | some l => some (through Y.t && Nat.beq Y.nx 353 && goodC hb p ⟨⟨l⟩, hb.life⟩, Y.tk, Heap.bltView ⟨⟨l⟩, hb.life⟩, Heap.nsMap ⟨⟨l⟩, hb.life⟩ mainGlobals "law", Y.T.get 349, ktG Y.T 1 0 K)
noncomputable def bltC := bltViewBooted
noncomputable def defC := PW.theDef "law"
end Mine
end
section
namespace Mine
noncomputable def runTT := runT (denote treeTable)
noncomputable def topT := topStub PW
lay_quick Mine.runTT Mine.topT Mine.obsC Mine.bltC Mine.defC
end Mine
end
section
namespace Mine
@[irreducible] noncomputable def rT : Program → Params → Nat → Nat → TT → Option TT := PySem.W.Fast.tw8642637878892103597
@[irreducible] noncomputable def tT : Thread := PySem.W.Fast.tw17440242657775174349
@[irreducible] noncomputable def pT : Program := PySem.W.Fast.tw12398391418792145533
@[irreducible] noncomputable def oT : Heap → Program → KT → TT → Option (Bool × Nat × (Option Str × List (Str × Value)) × Option Value × Option (Nat × Obj) × KT) := PySem.W.Fast.tw7261534521072714305
@[irreducible] noncomputable def bT : Option Str × List (Str × Value) := PySem.W.Fast.tw8201556092377487456
@[irreducible] noncomputable def dT : Option (Arguments × List Stmt × Scope) := PySem.W.Fast.tw8014917880957444649
theorem rT_eq : runT (denote treeTable) = rT := by unfold rT; exact PySem.W.Fast.te8642637878892103597
theorem tT_eq : topStub PW = tT := by unfold tT; exact PySem.W.Fast.te17440242657775174349
theorem pT_eq : PW = pT := by unfold pT; exact PySem.W.Fast.te12398391418792145533
theorem oT_eq : obsC = oT := by unfold oT; exact PySem.W.Fast.te7261534521072714305
theorem bT_eq : bltViewBooted = bT := by unfold bT; exact PySem.W.Fast.te8201556092377487456
theorem dT_eq : PW.theDef "law" = dT := by unfold dT; exact PySem.W.Fast.te8014917880957444649
noncomputable def bootT (P : Params) : LT := LT.of 0 ((boot_heap P).objs.toList.zipIdx.map fun x => (x.2, x.1)) .nil
theorem test_f (w : World) : ((rT pT (vf w false).params 11 2712 ⟨bootT (vf w false).params, 11, 181, tT⟩).bind (oT (boot_heap (vf w false).params) pT (kq (vf w false).params))) = some (true, 693, bT, some (.ref 352), some (349, ⟨.none, none, .fields ⟨[]⟩, ⟨[]⟩⟩), kq (vf w false).params) := by kernel_rfl
theorem test_t (w : World) : ((rT pT (vf w true).params 11 2712 ⟨bootT (vf w true).params, 11, 181, tT⟩).bind (oT (boot_heap (vf w true).params) pT (kq (vf w true).params))) = some (true, 693, bT, some (.ref 352), some (349, ⟨.none, none, .fields ⟨[]⟩, ⟨[]⟩⟩), kq (vf w true).params) := by kernel_rfl
theorem test (w : World) (b : Bool) : ((rT pT (vf w b).params 11 2712 ⟨bootT (vf w b).params, 11, 181, tT⟩).bind (oT (boot_heap (vf w b).params) pT (kq (vf w b).params))) = some (true, 693, bT, some (.ref 352), some (349, ⟨.none, none, .fields ⟨[]⟩, ⟨[]⟩⟩), kq (vf w b).params) := bk b (test_f w) (test_t w)
theorem law_def : dT = some (fdP (st (nat_lit 40)), fdB (st (nat_lit 40)), fdS (st (nat_lit 40))) := by kernel_rfl
end Mine
end
section
namespace Mine
noncomputable def layT : List Obj → Nat → LT → Option LT
  | [], _, T => some T
  | o :: l, i, T => match o.isFreed with
    | true => none
    | false => match (T.put i i o).get i with
      | some _ => layT l (i + 1) (T.put i i o)
      | none => none
theorem layT_ok : ∀ (l : List Obj) (i : Nat) (T T' : LT) (h : Heap), RT T i h → layT l i T = some T' → RT T' (i + l.length) (l.foldl Heap.push h)
  | [], i, T, T', h, D, e => by cases e; exact D
  | o :: l, i, T, T', h, D, e => by
    unfold layT at e
    cases hf : o.isFreed with
    | true => rw [hf] at e; cases e
    | false =>
      rw [hf] at e
      dsimp only at e
      cases g : (T.put i i o).get i with
      | none => rw [g] at e; cases e
      | some x =>
        rw [g] at e
        rw [List.length_cons, show i + (l.length + 1) = i + 1 + l.length by omega]
        exact layT_ok l (i + 1) _ T' _ (D.push hf g) e
theorem boot_RT (P : Params) : RT (bootT P) 11 (boot_heap P) := by
  have e : boot_heap P = (boot_heap P).objs.toList.foldl Heap.push ⟨⟨[]⟩, (boot_heap P).life⟩ := by kernel_rfl
  have h := layT_ok (boot_heap P).objs.toList 0 .nil (bootT P) ⟨⟨[]⟩, (boot_heap P).life⟩ ⟨rfl, fun a b o e => by cases e⟩ (by kernel_rfl)
  rw [← e] at h
  have n : (boot_heap P).objs.toList.length = 11 := by kernel_rfl
  rw [n] at h
  exact h
/-- what is known when the top has run -/
structure Hd (w : World) (h : Heap) : Prop where
  good : goodC (boot_heap w.params) PW h = true
  blt : h.bltView = bltViewBooted
  law : h.nsMap mainGlobals "law" = some (.ref 352)
  tab : h.get? 349 = some ⟨.none, none, .fields ⟨[]⟩, ⟨[]⟩⟩
  kt : KT.Holds h 1 0 (kq w.params)
  size : h.objs.size = 353
theorem head_ran (w : World) (b : Bool) (s₀ : Shared) (hh : s₀.heap = boot_heap (vf w b).params) (hg : s₀.gens = #[]) (ht : s₀.toks = 181) (z : s₀.asleep) :
    ∃ n s₁, topRun table PW (vf w b) 11 none n s₀ (topStub PW) = some s₁ ∧ s₁.gens = #[] ∧ s₁.toks = 693 ∧ Hd (vf w b) s₁.heap := by
  have T := test w b
  obtain ⟨Y, hY, hO⟩ := Option.bind_eq_some_iff.mp T
  rw [← rT_eq, ← tT_eq, ← pT_eq, ← table_eq_tree] at hY
  rw [← oT_eq, ← pT_eq, ← bT_eq] at hO
  obtain ⟨heap, gens, dr, tk, os⟩ := s₀
  dsimp only at hh hg ht
  subst hh hg ht
  obtain ⟨h', D, n, H⟩ := runT_sound (ann := none) (dr := dr) (os := os) 2712 _ Y hY (boot_heap (vf w b).params) (boot_RT _)
  unfold obsC at hO
  cases hl : rowsT Y.T 353 0 with
  | none => rw [hl] at hO; cases hO
  | some l =>
    rw [hl] at hO
    dsimp only at hO
    have hO := Option.some.inj hO
    have h1 : (through Y.t && Nat.beq Y.nx 353 && goodC _ _ _) = true := congrArg (·.1) hO
    have h2 : Y.tk = 693 := congrArg (·.2.1) hO
    have h3 : Heap.bltView _ = bltViewBooted := congrArg (·.2.2.1) hO
    have h4 : Heap.nsMap _ mainGlobals "law" = some (.ref 352) := congrArg (·.2.2.2.1) hO
    have h5 : Y.T.get 349 = _ := congrArg (·.2.2.2.2.1) hO
    have h6 : ktG Y.T 1 0 _ = kq _ := congrArg (·.2.2.2.2.2) hO
    rw [Bool.and_eq_true, Bool.and_eq_true] at h1
    obtain ⟨⟨ha, hn⟩, hc⟩ := h1
    have hn : Y.nx = 353 := Nat.eq_of_beq_eq_true hn
    have run : topRun table PW (vf w b) 11 none (n + 1) ⟨boot_heap (vf w b).params, #[], dr, 181, os⟩ (topStub PW) = some ⟨h', #[], dr, Y.tk, os⟩ := by
      rw [H 1]
      unfold topRun
      rw [ha]
    have lf := (topRun_spec _ _ _ _ z run).2.1
    have hob := rowsT_objs (hn ▸ D) hl
    have eh : h' = ⟨⟨l⟩, (boot_heap (vf w b).params).life⟩ := by
      obtain ⟨o, lf'⟩ := h'
      dsimp only at lf hob
      rw [hob, lf]
    refine ⟨n + 1, _, run, rfl, h2, ?_⟩
    dsimp only
    refine ⟨?_, ?_, ?_, D.own _ _ _ h5, ktG_ok D _ _ _ h6, by rw [D.size, hn]⟩
    · rw [eh]; exact hc
    · rw [eh]; exact h3
    · rw [eh]; exact h4
end Mine
end
section
namespace Mine
theorem open_plain : opening PW = plainProg PW.main.scope.names := by kernel_rfl
theorem no_fence (s : Shared) : fenceModules? PW s = some s := by kernel_rfl
theorem top_facts (w : World) (b : Bool) : (∃ s, AfterRun (opening PW) (vf w b) s) ∧ ∀ s, AfterRun (opening PW) (vf w b) s → ∃ s₀, fenceModules? PW s = some s₀ ∧ s₀.gens = #[] ∧ ∃ s₁, TopRan PW (vf w b) s₀ s₁ ∧ s₁.asleep ∧ s₁.gens = #[] ∧ s₁.toks = 693 ∧ Hd (vf w b) s₁.heap := by
  obtain ⟨s₀, h1, e⟩ := Option.map_eq_some_iff.mp (boot_open (N := 600) open_plain rfl no_fence (vf w b))
  rw [← table_eq_tree] at h1
  obtain ⟨s, h4, h5⟩ := Option.bind_eq_some_iff.mp h1
  have A := AfterImport.of_importEnds h4
  have e1 : s₀.heap = boot_heap (vf w b).params := congrArg (·.1) e
  have e2 : s₀.gens = #[] := congrArg (·.2.1) e
  have e3 : s₀.toks = boot_toks := congrArg (·.2.2.2) e
  have e3 : s₀.toks = 181 := e3.trans (by kernel_rfl)
  refine ⟨⟨s, A⟩, fun s' hs' => ?_⟩
  obtain rfl : s' = s := AfterImport.unique hs' A
  have z : s₀.asleep := Shared.asleep_of_life (fence_lifeW h5) A.life
  obtain ⟨n, s₁, run, g1, tk1, H⟩ := head_ran w b s₀ e1 e2 e3 z
  obtain ⟨a, l, os, fr⟩ := topRun_spec _ _ _ _ z run
  have good := H.good
  unfold goodC at good
  simp only [Bool.and_eq_true] at good
  obtain ⟨⟨⟨⟨⟨⟨⟨c1, c2⟩, c3⟩, c4⟩, c5⟩, c6⟩, c7⟩, c8⟩ := good
  rw [← e1] at c1 c3 c8
  obtain ⟨bm, ob, y1, y2, y3, y4, y5, _⟩ := Heap.bmainOk_spec c7
  have sz : s₀.heap.objs.size = 11 := by rw [e1]; exact (boot_RT _).size
  refine ⟨s₀, h5, e2, s₁, ⟨a, l, Shared.rest_eq os, fun b o hb hn => fr b o (sz ▸ Heap.lt_size hb) (fun q => hn (.inl q)) (fun q => hn (.inr (.inl q))) (fun q => nomatch q) hb,
    Heap.accountedI_of_ok c4, statics_of_ok c1, Pin.keysAreStrs_of c5, fun x hx => (Pin.builtinOf_eq c6 x).trans (Heap.of_bltView c6 H.blt x hx), ⟨bm, ob, (Pin.globalOf_eq c5 _).trans y1, y3, y4, y5⟩, by rw [g1]; intro g hg; exact absurd hg (Array.not_mem_empty g), names_of_bound c2, laid_of_kept c3⟩, Shared.asleep_of_life l z, g1, tk1, H⟩
theorem Hd.main {w : World} {h : Heap} (H : Hd w h) : h.isNs mainGlobals = true := by
  have good := H.good
  unfold goodC at good
  simp only [Bool.and_eq_true] at good
  exact good.1.1.1.2
theorem kt_law (P : Params) : (kq P).get 352 = some (k352 P) := by kernel_rfl
theorem Hd.obj {w : World} {h : Heap} (H : Hd w h) {a : Nat} {o : Obj} (e : (kq w.params).get a = some o) : h.get? a = some o := by
  have := KT.Holds.get H.kt e
  rwa [Nat.one_mul, Nat.add_zero] at this
theorem pin_law {w : World} {h : Heap} (H : Hd w h) : isTheDefsW PW h "law" := by
  refine ⟨352, _, _, _, _, _, (Pin.globalOf_eq H.main _).trans H.law, H.obj (kt_law w.params), rfl, dT_eq.trans law_def, ?_, ?_, rfl, rfl, rfl, rfl, rfl, rfl, .inl ⟨by kernel_rfl, rfl⟩, [], by kernel_rfl, .inl ⟨rfl, rfl⟩⟩ <;> kernel_rfl
end Mine
end
section
namespace Mine
noncomputable def Γ₀ : PySem.Ctx := ⟨.builtin "claim.caller" {}, none, none, [], none⟩
noncomputable def rowName : Str := PySem.Str.ofString "law"
noncomputable def cTree (sa : Nat) : Sem PySem.Fin := (callStub rowName [.ref sa]).cur
noncomputable def VT (w : World) : VX := ⟨wsL w, Γ₀⟩
noncomputable def sT0 (sa : Nat) (its : List Value) (n0 b t0 : Nat) : SX := ⟨.builtin "claim.caller" {}, [], cTree sa, default, T2 349 (tabO []) sa (lst its n0), 2, b, t0⟩
theorem caller_run (w0 : World) (b1 b2 : Bool) (sa t0 : Nat) (its : List Value) (n0 : Nat) (h₀ : Heap) (R : Result → Shared → Prop) (d : Drawn) (os : OsState)
    (D : Rep (wsL (W4 w0 b1 b2)) h₀ [349] (T2 349 (tabO []) sa (lst its n0)) h₀.objs.size h₀) (hv : ∀ v ∈ its, ∃ k t, v = .int k t) (hn : its.length ≤ 63)
    (fin : ∀ T nx' tk' h', TabAt (T.get 0) → Rep (wsL (W4 w0 b1 b2)) h₀ [349] T nx' h' → R (.ok (.ret (.bool true))) ⟨h', #[], d, tk', os⟩) :
    Sem.wp (model PW (W4 w0 b1 b2)) Γ₀ (cTree sa) (Sem.finPost (model PW (W4 w0 b1 b2)) Γ₀ R) (fun e _ s' => R (.error e) s') default ⟨h₀, #[], d, t0, os⟩ := by
  have G : GoX (vb (VT (W4 w0 b1 b2)) h₀ R d os) (sT0 sa its n0 h₀.objs.size t0) := by
    refine sx (by show 1 ≤ 2; decide) 1 0 (by kernel_rfl) (by kernel_rfl) ?_
    refine GoX.callX (.call (.ref 352) ⟨[.ref sa], []⟩) none (by kernel_rfl) ?_
    have z := law_run ⟨w0, b1, b2, sa, h₀.objs.size, t0, its, n0, [], its.take 24⟩ h₀ (fun r s' => MeanX (vb (VT (W4 w0 b1 b2)) h₀ R d os) (rX (VT (W4 w0 b1 b2)) 1 0 [] (sT0 sa its n0 h₀.objs.size t0)).st.c (rX (VT (W4 w0 b1 b2)) 1 0 [] (sT0 sa its n0 h₀.objs.size t0)).st.κ (callK (rX (VT (W4 w0 b1 b2)) 1 0 [] (sT0 sa its n0 h₀.objs.size t0)).st.t r) (rX (VT (W4 w0 b1 b2)) 1 0 [] (sT0 sa its n0 h₀.objs.size t0)).st.p s') d os rfl rfl hv hn ?_
    · have e1 : VB.push (vb (VT (W4 w0 b1 b2)) h₀ R d os) (rX (VT (W4 w0 b1 b2)) 1 0 [] (sT0 sa its n0 h₀.objs.size t0)).st (.call (.ref 352) ⟨[.ref sa], []⟩) none = vb (VL (W4 w0 b1 b2) sa) h₀ (fun r s' => MeanX (vb (VT (W4 w0 b1 b2)) h₀ R d os) (rX (VT (W4 w0 b1 b2)) 1 0 [] (sT0 sa its n0 h₀.objs.size t0)).st.c (rX (VT (W4 w0 b1 b2)) 1 0 [] (sT0 sa its n0 h₀.objs.size t0)).st.κ (callK (rX (VT (W4 w0 b1 b2)) 1 0 [] (sT0 sa its n0 h₀.objs.size t0)).st.t r) (rX (VT (W4 w0 b1 b2)) 1 0 [] (sT0 sa its n0 h₀.objs.size t0)).st.p s') d os := by kernel_rfl
      have e2 : (⟨.call (.ref 352) ⟨[.ref sa], []⟩, [], dX (.call (.ref 352) ⟨[.ref sa], []⟩), (rX (VT (W4 w0 b1 b2)) 1 0 [] (sT0 sa its n0 h₀.objs.size t0)).st.p, (rX (VT (W4 w0 b1 b2)) 1 0 [] (sT0 sa its n0 h₀.objs.size t0)).st.T, (rX (VT (W4 w0 b1 b2)) 1 0 [] (sT0 sa its n0 h₀.objs.size t0)).st.m, (rX (VT (W4 w0 b1 b2)) 1 0 [] (sT0 sa its n0 h₀.objs.size t0)).st.nx, (rX (VT (W4 w0 b1 b2)) 1 0 [] (sT0 sa its n0 h₀.objs.size t0)).st.tk⟩ : SX) = sL0 ⟨w0, b1, b2, sa, h₀.objs.size, t0, its, n0, [], its.take 24⟩ := by kernel_rfl
      show GoX (VB.push (vb (VT (W4 w0 b1 b2)) h₀ R d os) (rX (VT (W4 w0 b1 b2)) 1 0 [] (sT0 sa its n0 h₀.objs.size t0)).st (.call (.ref 352) ⟨[.ref sa], []⟩) none) ⟨.call (.ref 352) ⟨[.ref sa], []⟩, [], dX (.call (.ref 352) ⟨[.ref sa], []⟩), (rX (VT (W4 w0 b1 b2)) 1 0 [] (sT0 sa its n0 h₀.objs.size t0)).st.p, (rX (VT (W4 w0 b1 b2)) 1 0 [] (sT0 sa its n0 h₀.objs.size t0)).st.T, (rX (VT (W4 w0 b1 b2)) 1 0 [] (sT0 sa its n0 h₀.objs.size t0)).st.m, (rX (VT (W4 w0 b1 b2)) 1 0 [] (sT0 sa its n0 h₀.objs.size t0)).st.nx, (rX (VT (W4 w0 b1 b2)) 1 0 [] (sT0 sa its n0 h₀.objs.size t0)).st.tk⟩
      rw [e1, e2]
      exact z
    · intro T nx' tk' h' ht D'
      have e : callK (rX (VT (W4 w0 b1 b2)) 1 0 [] (sT0 sa its n0 h₀.objs.size t0)).st.t (.ok (.ret (.bool true))) = .pure (.done (.ret (.bool true))) := by kernel_rfl
      have e' : (rX (VT (W4 w0 b1 b2)) 1 0 [] (sT0 sa its n0 h₀.objs.size t0)).st.κ = [] := by kernel_rfl
      rw [e, e']
      exact fin T nx' tk' h' ht D'
  exact G h₀ D
end Mine
end
section
namespace Mine
abbrev row : OpenRow := PySem.Challenge.rw_pf0369_01.row
theorem ints_are : ∀ {vs : List Value} {ns : List Int}, IntsAre vs ns → (∀ v ∈ vs, ∃ k t, v = .int k t) ∧ vs.length = ns.length
  | _, _, .nil => ⟨(fun v hv => by cases hv), rfl⟩
  | _, _, .cons n t h => ⟨(fun v hv => by
      rcases List.mem_cons.mp hv with rfl | hv
      · exact ⟨n, t, rfl⟩
      · exact (ints_are h).1 v hv), by rw [List.length_cons, List.length_cons, (ints_are h).2]⟩
theorem law_args {w : World} {s₀ s₁ : Shared} {args : List WData} {vals : List Value} {as : List Addr} (L : Laid row.records w s₀ s₁ args vals as)
    (hpre : row.claim.pre args = true) (hlay : WData.layableAll args = true) (hrd : ReadsAllW row.records (classAt s₀.heap) s₁.heap vals args as) (hwl : WellAll w.params s₁.heap vals args) (hlo : ∀ a ∈ as, (a == sysModules) = false) :
    ∃ (ns : List Int) (a : Addr) (its : List Value), args = [ofPy (PyData.list (ns.map PyData.int))] ∧ vals = [.ref a] ∧ s₁.heap.IsList a its.toArray ∧ (∀ v ∈ its, ∃ k t, v = .int k t) ∧ its.length ≤ 63 := by
  wrow_args hpre hlay hrd hwl hlo
  rename_i hL _ _ _ hI _ hlen _
  exact ⟨_, _, _, rfl, rfl, hL, (ints_are hI).1, by have := (ints_are hI).2; omega⟩
theorem kt_free (P : Params) : (kq P).get 349 = none ∧ (kq P).get 353 = none := ⟨by kernel_rfl, by kernel_rfl⟩
theorem kt_code (P : Params) : (kq P).get 351 = some (k351 P) := by kernel_rfl
/-- what is left behind the call -/
theorem law_left {w : World} {h h' : Heap} {T : LT} {nx : Nat} (ht : TabAt (T.get 0)) (D : Rep (wsL w) h [349] T nx h') (h1 : h.get? 351 = some (k351 w.params)) (h2 : h.get? 349 = some (tabO [])) : OldK h h' := by
  have o := D.own _ _ _ ht
  generalize tabV (T.get 0) = vs at o
  refine ⟨fun b x hx => ?_, fun b x hx => ?_⟩
  · by_cases hb : b = 349
    · subst hb
      obtain rfl : x = tabO [] := Option.some.inj (hx.symm.trans h2)
      exact .inr (.inl ⟨⟨351, _, _, h1, rfl, rfl, rfl⟩, rfl, #[], vs, rfl, by rw [o, Array.empty_append]; rfl⟩)
    · exact .inl (D.keep b x hx (by simpa using hb))
  · by_cases hb : b = 349
    · exact ⟨_, hb ▸ o⟩
    · exact ⟨_, D.keep b x hx (by simpa using hb)⟩
theorem call_from (w0 : World) (b1 b2 : Bool) (s : Shared) (z : s.asleep) (hg : s.gens = #[]) (H : Hd (W4 w0 b1 b2) s.heap) (free : Addr → Prop) (gens : Prop) (kept : Heap → Prop) (hk : ∀ h, kept h) :
    row.claim.CallFrom (callStub rowName) (W4 w0 b1 b2) free gens kept s := by
  intro args hpre hlay ord hord
  obtain ⟨⟨vs, s₁⟩, hlaid⟩ := Option.isSome_iff_exists.mp (layAllW_isSome (P := (W4 w0 b1 b2).params) (ord := ord) (R := row.claim.records) (cl := classAt s.heap) (fun c hc => by cases hc) args row.args s (pre_splitW hpre).1)
  have keeps := layAllW_keeps _ _ _ hlaid
  have hal := layAllW_rest _ _ _ hlaid
  obtain ⟨as, hrd, hin, hold⟩ := reads_layAllW hord _ _ _ hlaid hlay s₁.heap (fun _ _ e => e)
  have L : Laid row.records (W4 w0 b1 b2) s s₁ args vs as := ⟨⟨ord, hord, hlaid⟩, hrd, hin, hold, keeps, hal.1.trans hg, hal.2.2.1⟩
  obtain ⟨ns, a, its, ea, ev, hL, hv, hn⟩ := law_args L hpre hlay L.reads L.well (L.low (by rw [H.size]; decide))
  subst ev
  have L2 := L
  rw [ea] at L2
  obtain ⟨e1, e2⟩ := script_at L2
  have ob := script_obj L2 hL
  rw [H.size] at e1
  subst e1
  have t0 := keeps _ _ H.tab
  have K : ∀ c y, (kq (W4 w0 b1 b2).params).get c = some y → s₁.heap.get? c = some y := fun c y e => keeps _ _ (H.obj e)
  have D : Rep (wsL (W4 w0 b1 b2)) s₁.heap [349] (T2 349 (tabO []) 353 (lst its 0)) s₁.heap.objs.size s₁.heap := start2 K t0 ob (by decide) (kt_free _).1 (kt_free _).2 rfl rfl rfl
  have wp := caller_run w0 b1 b2 353 s₁.toks its 0 s₁.heap (fun r s' => (row.claim.Ends s args [.ref 353] s₁ r s' ∧ s'.os = s.os) ∧ leftWithCleanup s'.gens = false) s₁.drawn s₁.os D hv hn fun T nx' tk' h' ht D' => by
    have g : GoodWG row.claim (classAt s.heap) (ExcName.means s.heap) args s₁ (.ok (.ret (.bool true))) ⟨h', #[], s₁.drawn, tk', s₁.os⟩ :=
      ⟨.inl ⟨.bool true, .bool true, [], rfl, fun _ => rfl, .bool _, by kernel_rfl, fun _ => ⟨List.nodup_nil, fun _ h => by cases h⟩⟩, law_left ht D' (K _ _ (kt_code _)) t0, rfl, by intro y hy; exact absurd hy (Array.not_mem_empty y)⟩
    have q := g.laid (c := row.claim) rfl rfl (ident_freeW (r := row.toRowW) rfl rfl rfl) L
    exact ⟨⟨q.1, q.2.1⟩, leftWithCleanup_false_of_bare q.2.2⟩
  have e : s₁ = ⟨s₁.heap, #[], s₁.drawn, s₁.toks, s₁.os⟩ := by
    have := L.gens
    obtain ⟨a1, a2, a3, a4, a5⟩ := s₁
    dsimp only at this
    rw [this]
  rw [← e] at wp
  obtain ⟨k, r, s'', s', hsched, hrun, hfo, hcase, hos⟩ := wp_halts_full (M := model PW (W4 w0 b1 b2)) (Shared.asleep_of_life hal.2.2.2 z) wp
  obtain ⟨eh, _, _, eo, _⟩ := Shared.forget_eq hfo
  have hcase := hcase.congr eh
  rw [← eo] at hos
  have hlife : s'.heap.life = s.heap.life := (runN_life _ _ _ hrun).trans hal.2.2.2
  refine ⟨_, s₁, hlaid, k, _, s', hsched, ?_, (fun _ i x hx => by rw [hg] at hx; simp at hx), hk _, by rw [hlife], Shared.rest_eq hos⟩
  rcases hcase with ⟨v, rfl, d1, d2, d3, d4, d5⟩ | ⟨e, ob, cls, rfl, d1, d2, d3, d4, d5⟩
  · exact .inl ⟨v, rfl, d1, d2, d3, fun b o y _ => d4 b o y, d5⟩
  · exact .inr ⟨e, ob, cls, rfl, d1, d2, d3, d4, fun b o y _ => d5 b o y⟩
end Mine
end
section
namespace Mine
theorem worlds4 {P : World → Prop} (h : ∀ w0 b1 b2, P (W4 w0 b1 b2)) (w : World) : P w := by
  refine worlds (P := P) (fun w => ?_) (fun w => ?_) w
  · exact worlds2 (P := fun w => P (vf w false)) (fun w => h w false false) (fun w => h w false true) w
  · exact worlds2 (P := fun w => P (vf w true)) (fun w => h w true false) (fun w => h w true true) w
theorem pw_bare : PW.bare := ⟨rfl, rfl, rfl, rfl, rfl, by kernel_rfl⟩
theorem pw_opens : opensWell PW = true := by kernel_rfl
theorem row_witness : row.toRowW.promised := by w_witness2
theorem row_open : row.toRowW.claim.HoldsOpenBy (callStub row.name) (if row.pinned then [row.name] else []) row.keeps row.writes := by
  refine ⟨⟨pw_bare, pw_opens, rfl⟩, row_witness.witness, worlds4 fun w0 b1 b2 => ?_⟩
  obtain ⟨h1, h2⟩ := top_facts (vg w0 b2) b1
  refine ⟨h1, fun s hs => ?_⟩
  obtain ⟨s₀, f, g, s₁, T, z, g1, _, H⟩ := h2 s hs
  refine ⟨s₀, f, g, s₁, T, fun n hn => ?_, (fun x hx => by cases hx), (fun x hx => by cases hx), call_from w0 b1 b2 s₁ z g1 H _ _ _ (fun h q => by cases q)⟩
  have e : n = "law" := List.mem_singleton.mp hn
  rw [e]
  exact pin_law H
end Mine
end
theorem PySem.Challenge.cw_pf0369_01_holds : PySem.Challenge.rw_pf0369_01.Holds := by
  w_on
  o_law
  rename_i said
  exact ⟨said, Mine.row_witness, Mine.row_open⟩
