import PyProof.Rows.All
import Wide.All
import OpenK.AllK
import Wide.FinOn
import PySem.Challenge.RW_pq0140_01
set_option Elab.async false
section
open PySem PySem.W PySem.W.X PyProof.Rows
set_option maxRecDepth 100000
namespace Mine
/-- a return frame: what goes on behind a call; the handlers of the tree that waits -/
structure KF where
  k : Result → Sem Fin
  g : Ctx
  p : Pos
  L : List (Value → Sem Fin)
/-- a store by index: an address and the object that lies there -/
inductive PT where
  | nil
  | node (v : Option (Addr × Obj)) (l r : PT)
namespace PT
noncomputable def get : PT → Nat → Option (Addr × Obj)
  | .nil, _ => none
  | .node v l r, i => match Nat.beq i 0 with
    | true => v
    | false => match Nat.beq (i % 2) 1 with
      | true => l.get (i / 2)
      | false => r.get (i / 2 - 1)
noncomputable def put : Nat → PT → Nat → Addr × Obj → PT
  | 0, t, _, _ => t
  | n + 1, .nil, i, o => match Nat.beq i 0 with
    | true => .node (some o) .nil .nil
    | false => match Nat.beq (i % 2) 1 with
      | true => .node none (put n .nil (i / 2) o) .nil
      | false => .node none .nil (put n .nil (i / 2 - 1) o)
  | n + 1, .node v l r, i, o => match Nat.beq i 0 with
    | true => .node (some o) l r
    | false => match Nat.beq (i % 2) 1 with
      | true => .node v (put n l (i / 2) o) r
      | false => .node v l (put n r (i / 2 - 1) o)
/-- a store out of a list of numbered entries -/
noncomputable def ofList : List (Nat × Addr × Obj) → PT → PT
  | [], t => t
  | x :: l, t => ofList l (t.put 40 x.1 x.2)
end PT
/-- what must be equal, told as trees -/
noncomputable abbrev Obl := List (Sem Fin × Sem Fin)
noncomputable def cC (c : Code) : Sem Fin := .pure (.again c)
/-- an address, told as a tree -/
noncomputable def cA (a : Nat) : Sem Fin := cC (.call (.ref a) ⟨[], []⟩)
noncomputable def cL (vs : List Value) : Sem Fin := cC (.call .none ⟨vs, []⟩)
/-- what a longer list has more -/
noncomputable def dropL : List Value → List Value → List Value
  | [], l => l
  | _ :: a, l => match l with
    | [] => []
    | _ :: l => dropL a l
inductive Out where
  | more (ce : List Nat) (g : Ctx)
  | fin (r : Result) (kt : KT) (T : PT) (m : Nat) (acc : Obl)
  | agn (c : Code) (g : Ctx) (p : Pos) (kt : KT) (T : PT) (m : Nat) (acc : Obl)
  | cut (c : Code) (hd : Option Value) (k : Result → Sem Fin) (L : List (Value → Sem Fin)) (g : Ctx) (p : Pos) (K : List KF) (kt : KT) (T : PT) (m : Nat) (acc : Obl)
  | stop (w a : Nat)
  | uns (w : String)
/-- the parts of the semantics that the evaluator runs: given as such, or as fast twins -/
structure Den where
  den : Code → Sem Fin
  ex : List Stmt → Env → Sem Flow
  el : PySem.Expr → Env → Sem Value
  hb : Value → Env → List ExceptHandler → Sem Flow
  mc : PySem.Expr → Str → Pos → Pos → Env → Value → Nat → List (Bool × Sem Value) → List (Option Str × Sem Value) → Sem Value
  ln : Env → Str → Sem Value
  cl : Value → List Value → Sem Value
  dv : PySem.Expr → Pos → Value → Sem Flow
/-- a builtin's code answered by another tree: what must be equal, the tree -/
noncomputable abbrev AltT := Nat → KT → PT → Code → Option (Obl × Sem Fin)
/-- noting a frame, the frames of the stack given; the places as they come -/
noncomputable def noteM (es : List Env) (e : Value) : Sem Unit := match es with
  | [] => unsupported "no frame"
  | env :: outer => match env.frame with
    | none => unsupported "frame:not-modelled"
    | some f => do
      let head ← field e 1
      let go : Sem Unit := do
        readyFrames (env :: outer)
        let acts ← stack
        let t ← newFields "traceback" [head, .ref f, .none, rawInt f, .none, Z.cellQ 0 (Z.placeOf f (head != .none) acts), Z.cellQ 1 (Z.placeOf f (head != .none) acts), Z.cellQ 2 (Z.placeOf f (head != .none) acts), Z.cellQ 3 (Z.placeOf f (head != .none) acts), Z.cellQ 4 (Z.placeOf f (head != .none) acts), Z.cellQ 5 (Z.placeOf f (head != .none) acts)]
        setField e 1 t
      match head != .none with
      | true => do
        let x ← field head 3
        match x == rawInt f with
        | true => pure ()
        | false => do
          setField head 3 .none
          go
      | false => go
noncomputable def leaveH (es : List Env) (e : Value) : Sem Fin := do
  noteM es e
  setFlight e none
  .raise e
noncomputable def tryH (D : Den) (es : List Env) (env : Env) (hs : List ExceptHandler) (e : Value) : Sem Fin := do
  noteM es e
  setFlight e none
  let f ← D.hb e env hs
  match f with
  | .ret v => ret v
  | _ => unsupported "the handler does not return"
/-- the base of `super().x` in a def's own first statement -/
noncomputable def supBase (env : Env) (p1 : Pos) : Sem Value := match env.func with
  | none => unsupported "sup"
  | some f => do
    let fd ← funcData (.ref f)
    match (fd.params.posonlyargs ++ fd.params.args).head? with
    | none => unsupported "sup"
    | some first => do
      let st ← ask
      let fl ← field env.code 2
      match fl with
      | .str file _ => match st.program.main.file == file with
        | true => match (st.program.main.scope.names.lookup ("super" : Str)).isSome with
          | true => unsupported "sup"
          | false => do
            standAt p1
            let g ← loadName env "super"
            let cls ← loadName env "__class__"
            let self ← loadName env first.arg
            let aType ← isType cls
            match g == .type "super" && aType with
            | true => call g [cls, self]
            | false => unsupported "sup"
        | false => unsupported "sup"
      | _ => unsupported "sup"
/-- the same by the parts given -/
noncomputable def supBaseD (D : Den) (env : Env) (p1 : Pos) : Sem Value := match env.func with
  | none => unsupported "sup"
  | some f => do
    let fd ← funcData (.ref f)
    match (fd.params.posonlyargs ++ fd.params.args).head? with
    | none => unsupported "sup"
    | some first => do
      let st ← ask
      let fl ← field env.code 2
      match fl with
      | .str file _ => match st.program.main.file == file with
        | true => match (st.program.main.scope.names.lookup ("super" : Str)).isSome with
          | true => unsupported "sup"
          | false => do
            standAt p1
            let g ← D.ln env "super"
            let cls ← D.ln env "__class__"
            let self ← D.ln env first.arg
            let aType ← isType cls
            match g == .type "super" && aType with
            | true => D.cl g [cls, self]
            | false => unsupported "sup"
        | false => unsupported "sup"
      | _ => unsupported "sup"
noncomputable def isSup (e : PySem.Expr) (env : Env) : Bool := match e with
  | .Call (.Attribute (.Call (.Name id _) [] [] _) attr _) [.Name _ _] [] _ => id == "super" && !(attr == "__class__") && env.kindOf "super" == some .globalImplicit && env.kindOf "__class__" == some .free && env.code != .none && !interactive env
  | _ => false
noncomputable def supE (D : Den) (e : PySem.Expr) (env : Env) : Sem Value := match e with
  | .Call (.Attribute (.Call (.Name id p0) [] [] p1) attr p2) [.Name nm np] [] p3 => do
    let ov ← supBaseD D env p1
    standAt p2.atName
    D.mc (.Call (.Name id p0) [] [] p1) attr p2 p3 env ov 1 (backTo p3 [(false, D.el (.Name nm np) env)]) []
  | _ => unsupported "sup"
/-- how a code begins: its tree, its handlers -/
noncomputable def entry (D : Den) (g : Ctx) (c : Code) : Sem Fin × List (Value → Sem Fin) := match c with
  | .func body env => match body with
    | .Try b hs oe fin pos :: _ => match oe with
      | [] => match fin with
        | [] => match hs with
          | [] => (D.den c, [])
          | h0 :: hs' => (do point; standAt pos; let _ ← D.ex b env; unsupported "the try falls through", [tryH D (envsOf ((c, pos) :: g.below)) env (h0 :: hs'), leaveH (envsOf ((c, pos) :: g.below))])
        | _ :: _ => (D.den c, [])
      | _ :: _ => (D.den c, [])
    | .Expr e p4 :: rest => match isSup e env with
      | true => (do
          point
          standAt p4
          let v ← supE D e env
          let f0 ← D.dv e p4 v
          match f0 with
          | .next => do
            let f ← D.ex rest env
            match f with
            | .ret v => ret v
            | _ => ret .none
          | _ => unsupported "sup", [leaveH (envsOf ((c, default) :: g.below))])
      | false => (do
          point
          let f ← D.ex body env
          match f with
          | .ret v => ret v
          | _ => ret .none, [leaveH (envsOf ((c, default) :: g.below))])
    | _ => (do
        point
        let f ← D.ex body env
        match f with
        | .ret v => ret v
        | _ => ret .none, [leaveH (envsOf ((c, default) :: g.below))])
  | .expr e env => (do
        point
        let v ← D.el e env
        ret v, [leaveH (envsOf ((c, default) :: g.below))])
  | c => (D.den c, [])
noncomputable abbrev EvT := Sem Fin → List (Value → Sem Fin) → Ctx → Pos → List KF → KT → PT → Nat → (Nat → Nat) → (Nat → Nat) → List Nat → Obl → Out
noncomputable def retE (ih : EvT) (r : Result) (K : List KF) (kt : KT) (T : PT) (m : Nat) (ts as : Nat → Nat) (ce : List Nat) (acc : Obl) : Out := match K with
  | [] => .fin r kt T m acc
  | f :: K => ih (f.k r) f.L f.g f.p K kt T m ts as ce acc
noncomputable def goE (ih : EvT) (x : Sem Fin × List (Value → Sem Fin)) (g : Ctx) (p : Pos) (K : List KF) (kt : KT) (T : PT) (m : Nat) (ts as : Nat → Nat) (ce : List Nat) (acc : Obl) : Out := match x with
  | (t, L) => ih t L g p K kt T m ts as ce acc
noncomputable def roomyB (g : Ctx) : Bool := Nat.blt (unitsOf g.below + 100) cLine
noncomputable def evStep (D : Den) (S S' : Setting) (TA : List Nat) (al : AltT) (ih : EvT) (t : Sem Fin) (L : List (Value → Sem Fin)) (g : Ctx) (p : Pos) (K : List KF) (kt : KT) (T : PT) (m : Nat) (ts as : Nat → Nat) (ce : List Nat) (acc : Obl) : Out := match t with
  | .pure fin => match fin with
    | .done f => retE ih (.ok f) K kt T m ts as ce acc
    | .again c' => match c'.quiet with
      | true => match K with
        | [] => .agn c' g p kt T m acc
        | _ :: _ => match ce with
          | 0 :: ce => goE ih (entry D g c') (g.goto c') p K kt T m ts as ce acc
          | (op + 1) :: ce => match roomyB g with
            | true => match al op kt T c' with
              | some (ob, t) => ih t [] (g.goto c') p K kt T m ts as ce (ob ++ acc)
              | none => .stop 8 op
            | false => .stop 8 9
          | [] => .stop 9 2
      | false => .stop 5 0
  | .raise e => match L with
    | [] => retE ih (.error e) K kt T m ts as ce acc
    | h :: L => ih (h e) L g p K kt T m ts as ce acc
  | .rule _ k => ih (k ()) L g p K kt T m ts as ce acc
  | .at p' k => ih (k ()) L g p' K kt T m ts as ce acc
  | .point _ k => ih (k ()) L g p K kt T m ts as ce acc
  | .ask k => ih (k S) L g p K kt T m ts as ce ((k S, k S') :: acc)
  | .load a _ k => match ce with
    | 0 :: ce => match kt.get a with
      | some o => ih (k o) L g p K kt T m ts as ce acc
      | none => .stop 1 a
    | (j + 1) :: ce => match T.get j with
      | some (b, o) => ih (k o) L g p K kt T m ts as ce ((cA a, cA b) :: acc)
      | none => .stop 2 j
    | [] => .stop 9 0
  | .loadIfAlive a k => match ce with
    | 0 :: ce => match kt.get a with
      | some o => ih (k (some o)) L g p K kt T m ts as ce acc
      | none => .stop 1 a
    | (j + 1) :: ce => match T.get j with
      | some (b, o) => ih (k (some o)) L g p K kt T m ts as ce ((cA a, cA b) :: acc)
      | none => .stop 2 j
    | [] => .stop 9 0
  | .alloc o k => match o.isFreed with
    | true => .stop 6 0
    | false => match Nat.blt m 1000000 with
      | true => ih (k (as 0 + 268)) L g p K kt (T.put 40 m (as 0 + 268, o)) (m + 1) ts (fun i => as (i + 1)) ce acc
      | false => .stop 6 1
  | .update a _ f k => match ce with
    | 0 :: ce => match kt.get a with
      | some o => match TA.contains a && Nat.blt a 1000000 with
        | true => match tabOf o with
          | some vs => match tabOf (f o) with
            | some vs' => ih (k ()) L g p K (kt.put 40 a (f o)) T m ts as ce ((cL vs'.toList, cL (vs.toList ++ dropL vs.toList vs'.toList)) :: acc)
            | none => .stop 4 a
          | none => .stop 4 a
        | false => .stop 4 a
      | none => .stop 1 a
    | (j + 1) :: ce => match T.get j with
      | some (b, o) => match (f o).isFreed with
        | true => .stop 6 0
        | false => match Nat.blt j 1000000 with
          | true => ih (k ()) L g p K kt (T.put 40 j (b, f o)) m ts as ce ((cA a, cA b) :: acc)
          | false => .stop 6 1
      | none => .stop 2 j
    | [] => .stop 9 0
  | .fresh k => ih (k (ts 0)) L g p K kt T m (fun i => ts (i + 1)) as ce acc
  | .handled own k => match own with
    | false => ih (k g.handled) L g p K kt T m ts as ce acc
    | true => .stop 7 0
  | .stack k => ih (k ((g.code, p) :: g.below)) L g p K kt T m ts as ce acc
  | .call c' hd _ _ k => match ce with
    | 0 :: ce => goE ih (entry D (g.enter c' hd p) c') (g.enter c' hd p) p (⟨k, g, p, L⟩ :: K) kt T m ts as ce acc
    | 4 :: op :: ce => match roomyB (g.enter c' hd p) with
      | true => match al op kt T c' with
        | some (ob, t) => ih t [] (g.enter c' hd p) p (⟨k, g, p, L⟩ :: K) kt T m ts as ce (ob ++ acc)
        | none => .stop 8 op
      | false => .stop 8 9
    | 2 :: _ => .cut c' hd k L g p K kt T m acc
    | _ => .stop 9 1
  | .unsupported w => .uns w
  | _ => .stop 50 0
noncomputable def ev (D : Den) (S S' : Setting) (TA : List Nat) (al : AltT) (n : Nat) : EvT := @Nat.rec (fun _ => EvT) (fun _ _ g _ _ _ _ _ _ _ ce _ => .more ce g) (fun _ ih => evStep D S S' TA al ih) n
end Mine
end
section
open PySem PySem.W PySem.W.X PyProof.Rows PySem.Spec PySem.Calls
open Sem (wp)
set_option maxRecDepth 100000
namespace Mine
theorem ne_ll {a b N : Nat} (h : a < N) (h' : N ≤ b) : a ≠ b := by omega
theorem ne_ll' {a b N : Nat} (h : a < N) (h' : N ≤ b) : b ≠ a := by omega
theorem beq_d (a b : Nat) : Nat.beq a b = decide (a = b) := BT.beq_eq a b
theorem PT.get_node (v : Option (Addr × Obj)) (l r : PT) (i : Nat) : (PT.node v l r).get i = if i = 0 then v else if i % 2 = 1 then l.get (i / 2) else r.get (i / 2 - 1) := by
  show (match Nat.beq i 0 with | true => v | false => match Nat.beq (i % 2) 1 with | true => l.get (i / 2) | false => r.get (i / 2 - 1)) = _
  rw [beq_d, beq_d]
  by_cases h : i = 0
  · simp [h]
  · by_cases q : i % 2 = 1 <;> simp [h, q]
theorem PT.put_nil (n : Nat) (i : Nat) (o : Addr × Obj) : PT.put (n + 1) .nil i o = if i = 0 then .node (some o) .nil .nil else if i % 2 = 1 then .node none (PT.put n .nil (i / 2) o) .nil else .node none .nil (PT.put n .nil (i / 2 - 1) o) := by
  show (match Nat.beq i 0 with | true => _ | false => match Nat.beq (i % 2) 1 with | true => _ | false => _) = _
  rw [beq_d, beq_d]
  by_cases h : i = 0
  · simp [h]
  · by_cases q : i % 2 = 1 <;> simp [h, q]
theorem PT.put_node (n : Nat) (v : Option (Addr × Obj)) (l r : PT) (i : Nat) (o : Addr × Obj) : PT.put (n + 1) (.node v l r) i o = if i = 0 then .node (some o) l r else if i % 2 = 1 then .node v (PT.put n l (i / 2) o) r else .node v l (PT.put n r (i / 2 - 1) o) := by
  show (match Nat.beq i 0 with | true => _ | false => match Nat.beq (i % 2) 1 with | true => _ | false => _) = _
  rw [beq_d, beq_d]
  by_cases h : i = 0
  · simp [h]
  · by_cases q : i % 2 = 1 <;> simp [h, q]
theorem PT.nil_get (j : Nat) : PT.nil.get j = none := rfl
theorem PT.get_put : ∀ (n : Nat) (t : PT) (i j : Nat) (o : Addr × Obj), i + 1 < 2 ^ n → (PT.put n t i o).get j = if j = i then some o else t.get j
  | 0, _, i, _, _, h => by simp at h
  | n + 1, .nil, i, j, o, h => by
    rw [PT.put_nil]
    by_cases hi : i = 0
    · subst hi
      simp only [if_true]
      rw [PT.get_node]
      by_cases hj : j = 0
      · simp [hj]
      · simp [hj, PT.nil_get]
    · rw [if_neg hi]
      have h2 : 2 ^ (n + 1) = 2 * 2 ^ n := by rw [Nat.pow_succ]; omega
      by_cases q : i % 2 = 1
      · rw [if_pos q, PT.get_node]
        by_cases hj : j = 0
        · subst hj
          rw [if_pos rfl, if_neg (fun e => hi e.symm)]; rfl
        · rw [if_neg hj]
          by_cases qj : j % 2 = 1
          · rw [if_pos qj, PT.get_put n .nil (i / 2) (j / 2) o (by omega)]
            by_cases e : j = i
            · subst e; simp
            · rw [if_neg e, if_neg (by omega)]; rfl
          · rw [if_neg qj, if_neg (by omega : ¬ j = i)]; rfl
      · rw [if_neg q, PT.get_node]
        by_cases hj : j = 0
        · subst hj
          rw [if_pos rfl, if_neg (fun e => hi e.symm)]; rfl
        · rw [if_neg hj]
          by_cases qj : j % 2 = 1
          · rw [if_pos qj, if_neg (by omega : ¬ j = i)]; rfl
          · rw [if_neg qj, PT.get_put n .nil (i / 2 - 1) (j / 2 - 1) o (by omega)]
            by_cases e : j = i
            · subst e; simp
            · rw [if_neg e, if_neg (by omega)]; rfl
  | n + 1, .node v l r, i, j, o, h => by
    rw [PT.put_node]
    have h2 : 2 ^ (n + 1) = 2 * 2 ^ n := by rw [Nat.pow_succ]; omega
    by_cases hi : i = 0
    · subst hi
      simp only [if_true]
      rw [PT.get_node, PT.get_node]
      by_cases hj : j = 0
      · simp [hj]
      · simp [hj]
    · rw [if_neg hi]
      by_cases q : i % 2 = 1
      · rw [if_pos q, PT.get_node, PT.get_node v l r]
        by_cases hj : j = 0
        · subst hj
          rw [if_pos rfl, if_neg (fun e => hi e.symm), if_pos rfl]
        · rw [if_neg hj, if_neg hj]
          by_cases qj : j % 2 = 1
          · rw [if_pos qj, if_pos qj, PT.get_put n l (i / 2) (j / 2) o (by omega)]
            by_cases e : j = i
            · subst e; simp
            · rw [if_neg e, if_neg (by omega)]
          · rw [if_neg qj, if_neg qj, if_neg (by omega : ¬ j = i)]
      · rw [if_neg q, PT.get_node, PT.get_node v l r]
        by_cases hj : j = 0
        · subst hj
          rw [if_pos rfl, if_neg (fun e => hi e.symm), if_pos rfl]
        · rw [if_neg hj, if_neg hj]
          by_cases qj : j % 2 = 1
          · rw [if_pos qj, if_pos qj, if_neg (by omega : ¬ j = i)]
          · rw [if_neg qj, if_neg qj, PT.get_put n r (i / 2 - 1) (j / 2 - 1) o (by omega)]
            by_cases e : j = i
            · subst e; simp
            · rw [if_neg e, if_neg (by omega)]
theorem pt_put {T : PT} {i : Nat} {x : Addr × Obj} (h : i < 1000002) (j : Nat) : (T.put 40 i x).get j = if j = i then some x else T.get j := PT.get_put 40 T i j x (by omega)

theorem KT.put_nil (n : Nat) (i : Nat) (o : Obj) : KT.put (n + 1) .nil i o = if i = 0 then .node (some o) .nil .nil else if i % 2 = 1 then .node none (KT.put n .nil (i / 2) o) .nil else .node none .nil (KT.put n .nil (i / 2 - 1) o) := by
  show (match Nat.beq i 0 with | true => _ | false => match Nat.beq (i % 2) 1 with | true => _ | false => _) = _
  rw [beq_d, beq_d]
  by_cases h : i = 0
  · simp [h]
  · by_cases q : i % 2 = 1 <;> simp [h, q]
theorem KT.put_node (n : Nat) (v : Option Obj) (l r : KT) (i : Nat) (o : Obj) : KT.put (n + 1) (.node v l r) i o = if i = 0 then .node (some o) l r else if i % 2 = 1 then .node v (KT.put n l (i / 2) o) r else .node v l (KT.put n r (i / 2 - 1) o) := by
  show (match Nat.beq i 0 with | true => _ | false => match Nat.beq (i % 2) 1 with | true => _ | false => _) = _
  rw [beq_d, beq_d]
  by_cases h : i = 0
  · simp [h]
  · by_cases q : i % 2 = 1 <;> simp [h, q]
theorem KT.get_put : ∀ (n : Nat) (t : KT) (i j : Nat) (o : Obj), i + 1 < 2 ^ n → (KT.put n t i o).get j = if j = i then some o else t.get j
  | 0, _, i, _, _, h => by simp at h
  | n + 1, .nil, i, j, o, h => by
    rw [KT.put_nil]
    have h2 : 2 ^ (n + 1) = 2 * 2 ^ n := by rw [Nat.pow_succ]; omega
    by_cases hi : i = 0
    · subst hi
      simp only [if_true]
      rw [KT.get_node]
      by_cases hj : j = 0
      · simp [hj]
      · simp only [hj, if_false]; split <;> rfl
    · rw [if_neg hi]
      by_cases q : i % 2 = 1
      · rw [if_pos q, KT.get_node]
        by_cases hj : j = 0
        · subst hj
          rw [if_pos rfl, if_neg (fun e => hi e.symm)]; rfl
        · rw [if_neg hj]
          by_cases qj : j % 2 = 1
          · rw [if_pos qj, KT.get_put n .nil (i / 2) (j / 2) o (by omega)]
            by_cases e : j = i
            · subst e; simp
            · rw [if_neg e, if_neg (by omega)]; rfl
          · rw [if_neg qj, if_neg (by omega : ¬ j = i)]; rfl
      · rw [if_neg q, KT.get_node]
        by_cases hj : j = 0
        · subst hj
          rw [if_pos rfl, if_neg (fun e => hi e.symm)]; rfl
        · rw [if_neg hj]
          by_cases qj : j % 2 = 1
          · rw [if_pos qj, if_neg (by omega : ¬ j = i)]; rfl
          · rw [if_neg qj, KT.get_put n .nil (i / 2 - 1) (j / 2 - 1) o (by omega)]
            by_cases e : j = i
            · subst e; simp
            · rw [if_neg e, if_neg (by omega)]; rfl
  | n + 1, .node v l r, i, j, o, h => by
    rw [KT.put_node]
    have h2 : 2 ^ (n + 1) = 2 * 2 ^ n := by rw [Nat.pow_succ]; omega
    by_cases hi : i = 0
    · subst hi
      simp only [if_true]
      rw [KT.get_node, KT.get_node]
      by_cases hj : j = 0
      · simp [hj]
      · simp [hj]
    · rw [if_neg hi]
      by_cases q : i % 2 = 1
      · rw [if_pos q, KT.get_node, KT.get_node v l r]
        by_cases hj : j = 0
        · subst hj
          rw [if_pos rfl, if_neg (fun e => hi e.symm), if_pos rfl]
        · rw [if_neg hj, if_neg hj]
          by_cases qj : j % 2 = 1
          · rw [if_pos qj, if_pos qj, KT.get_put n l (i / 2) (j / 2) o (by omega)]
            by_cases e : j = i
            · subst e; simp
            · rw [if_neg e, if_neg (by omega)]
          · rw [if_neg qj, if_neg qj, if_neg (by omega : ¬ j = i)]
      · rw [if_neg q, KT.get_node, KT.get_node v l r]
        by_cases hj : j = 0
        · subst hj
          rw [if_pos rfl, if_neg (fun e => hi e.symm), if_pos rfl]
        · rw [if_neg hj, if_neg hj]
          by_cases qj : j % 2 = 1
          · rw [if_pos qj, if_pos qj, if_neg (by omega : ¬ j = i)]
          · rw [if_neg qj, if_neg qj, KT.get_put n r (i / 2 - 1) (j / 2 - 1) o (by omega)]
            by_cases e : j = i
            · subst e; simp
            · rw [if_neg e, if_neg (by omega)]
theorem kt_put {T : KT} {i : Nat} {x : Obj} (h : i < 1000002) (j : Nat) : (T.put 40 i x).get j = if j = i then some x else T.get j := KT.get_put 40 T i j x (by omega)

/-- what is fixed in a law's call -/
structure Vx where
  prog : Program
  w : World
  h₁ : Heap
  os : OsState
  N : Nat
  TA : List Nat
structure Vx.Ok (V : Vx) : Prop where
  size : V.h₁.objs.size = V.N
  low : 268 ≤ V.N
  ta : ∀ a ∈ V.TA, a < V.N
/-- the heap as the stores tell it; hb, D: an earlier heap, and what of it may have turned -/
structure Rep (V : Vx) (hb : Heap) (D : List Addr) (kt : KT) (T : PT) (s : Shared) : Prop where
  size : V.N ≤ s.heap.objs.size
  hbsz : hb.objs.size ≤ s.heap.objs.size
  ktH : ∀ a o, kt.get a = some o → s.heap.get? a = some o ∧ a < V.N
  TH : ∀ j b o, T.get j = some (b, o) → s.heap.get? b = some o ∧ V.N ≤ b ∧ (b ∈ D ∨ hb.get? b = none)
  dis : ∀ i j b o o', T.get i = some (b, o) → T.get j = some (b, o') → i = j
  keep : ∀ b o, hb.get? b = some o → b ∉ D → b ∉ V.TA → s.heap.get? b = some o
  keep₁ : ∀ b o, V.h₁.get? b = some o → b ∉ V.TA → s.heap.get? b = some o
  tabs : ∀ a ∈ V.TA, ∃ c ps vs more, V.h₁.TableAt c a ps ∧ s.heap.get? a = some (tableObj vs) ∧ vs = ps ++ more
  gens : s.gens = #[]
  os : s.os = V.os
section
variable {V : Vx} {hb : Heap} {D : List Addr} {kt : KT} {T : PT} {s : Shared}
theorem lt_of_get {h : Heap} {b : Addr} {o : Obj} (e : h.get? b = some o) : b < h.objs.size := Heap.lt_size e
theorem get_none_of_ge {h : Heap} {b : Addr} (e : h.objs.size ≤ b) : h.get? b = none := by
  cases q : h.get? b with
  | none => rfl
  | some o => exact absurd (Heap.lt_size q) (Nat.not_lt.mpr e)
theorem Rep.alloc (R : Rep V hb D kt T s) {o : Obj} (hf : o.isFreed = false) {m : Nat} (hm : m < 1000002) : Rep V hb D kt (T.put 40 m (s.heap.objs.size, o)) { s with heap := s.heap.push o } := by
  have P : ∀ b o', s.heap.get? b = some o' → (s.heap.push o).get? b = some o' := fun b o' e => Heap.get?_push_of_some o e
  refine ⟨?_, ?_, fun a o' e => ⟨P _ _ (R.ktH a o' e).1, (R.ktH a o' e).2⟩, fun j b o' e => ?_, fun i j b o₁ o₂ e₁ e₂ => ?_, fun b o' e h1 h2 => P _ _ (R.keep b o' e h1 h2), fun b o' e h1 => P _ _ (R.keep₁ b o' e h1), fun a ha => ?_, R.gens, R.os⟩
  · show V.N ≤ (s.heap.push o).objs.size
    rw [Heap.size_push]; exact Nat.le_succ_of_le R.size
  · show hb.objs.size ≤ (s.heap.push o).objs.size
    rw [Heap.size_push]; exact Nat.le_succ_of_le R.hbsz
  · rw [pt_put hm] at e
    by_cases hj : j = m
    · rw [if_pos hj] at e
      cases e
      exact ⟨Heap.get?_push_size _ hf, R.size, .inr (get_none_of_ge R.hbsz)⟩
    · rw [if_neg hj] at e
      have z := R.TH j b o' e
      exact ⟨P _ _ z.1, z.2⟩
  · rw [pt_put hm] at e₁ e₂
    by_cases hi : i = m
    · by_cases hj : j = m
      · rw [hi, hj]
      · rw [if_pos hi] at e₁; rw [if_neg hj] at e₂
        cases e₁
        exact absurd (lt_of_get (R.TH j _ _ e₂).1) (Nat.lt_irrefl _)
    · rw [if_neg hi] at e₁
      by_cases hj : j = m
      · rw [if_pos hj] at e₂
        cases e₂
        exact absurd (lt_of_get (R.TH i _ _ e₁).1) (Nat.lt_irrefl _)
      · rw [if_neg hj] at e₂
        exact R.dis i j b o₁ o₂ e₁ e₂
  · obtain ⟨c, ps, vs, more, h1, h2, h3⟩ := R.tabs a ha
    exact ⟨c, ps, vs, more, h1, P _ _ h2, h3⟩
/-- an entry's object turns; all else that stood stays -/
theorem Rep.turn (O : V.Ok) (R : Rep V hb D kt T s) {s' : Shared} {j : Nat} {b : Addr} {o o' : Obj} (e : T.get j = some (b, o)) (hj : j < 1000002)
    (k1 : ∀ a x, s.heap.get? a = some x → a ≠ b → s'.heap.get? a = some x) (k2 : s'.heap.get? b = some o') (k3 : s.heap.objs.size ≤ s'.heap.objs.size) (hg : s'.gens = #[]) (ho : s'.os = s.os) :
    Rep V hb D kt (T.put 40 j (b, o')) s' := by
  have z := R.TH j b o e
  refine ⟨Nat.le_trans R.size k3, Nat.le_trans R.hbsz k3, fun a x h => ?_, fun i c x h => ?_, fun i i' c x x' h h' => ?_, fun c x h h1 h2 => ?_, fun c x h h1 => ?_, fun a ha => ?_, hg, ho.trans R.os⟩
  · have y := R.ktH a x h
    exact ⟨k1 _ _ y.1 (ne_ll y.2 z.2.1), y.2⟩
  · rw [pt_put hj] at h
    by_cases q : i = j
    · rw [if_pos q] at h
      cases h
      exact ⟨k2, z.2⟩
    · rw [if_neg q] at h
      have y := R.TH i c x h
      exact ⟨k1 _ _ y.1 (fun w => q (R.dis i j c x o h (w ▸ e))), y.2⟩
  · have key : ∀ i c x, (T.put 40 j (b, o')).get i = some (c, x) → ∃ x', T.get i = some (c, x') := by
      intro i c x h
      rw [pt_put hj] at h
      by_cases q : i = j
      · rw [if_pos q] at h; cases h; exact ⟨o, q ▸ e⟩
      · rw [if_neg q] at h; exact ⟨x, h⟩
    obtain ⟨y, hy⟩ := key i c x h
    obtain ⟨y', hy'⟩ := key i' c x' h'
    exact R.dis i i' c y y' hy hy'
  · refine k1 _ _ (R.keep c x h h1 h2) fun w => ?_
    subst w
    rcases z.2.2 with q | q
    · exact h1 q
    · rw [h] at q; cases q
  · refine k1 _ _ (R.keep₁ c x h h1) fun w => ?_
    subst w
    exact absurd (lt_of_get h) (Nat.not_lt.mpr (O.size ▸ z.2.1))
  · obtain ⟨c, ps, vs, more, h1, h2, h3⟩ := R.tabs a ha
    exact ⟨c, ps, vs, more, h1, k1 _ _ h2 (ne_ll (O.ta a ha) z.2.1), h3⟩
theorem Rep.update (O : V.Ok) (R : Rep V hb D kt T s) {j : Nat} {b : Addr} {o : Obj} {f : Obj → Obj} (e : T.get j = some (b, o)) (hj : j < 1000002) (hf : (f o).isFreed = false) :
    Rep V hb D kt (T.put 40 j (b, f o)) { s with heap := s.heap.update b f } := by
  have z := R.TH j b o e
  have hs : Heap.SameBut b s.heap (s.heap.update b f) := Heap.SameBut.update ..
  refine R.turn O e hj (fun a x h ne => (hs.2 a ne).trans h) ?_ ?_ R.gens rfl
  · first | exact Heap.get?_update_self f z.1 hf | exact Heap.get?_update_self _ z.1 hf
  · show s.heap.objs.size ≤ (s.heap.update b f).objs.size
    rw [hs.1]; exact Nat.le_refl _
theorem Rep.table (O : V.Ok) (R : Rep V hb D kt T s) {a : Addr} {o : Obj} {f : Obj → Obj} {vs vs' : Array Value} {more : List Value} (e : kt.get a = some o) (ha : V.TA.contains a = true) (hl : a < 1000002)
    (h1 : tabOf o = some vs) (h2 : tabOf (f o) = some vs') (h3 : vs'.toList = vs.toList ++ more) :
    Rep V hb D (kt.put 40 a (f o)) T { s with heap := s.heap.update a f } := by
  have hm : a ∈ V.TA := by simpa using ha
  have ho : o = tableObj vs := tabOf_eq h1
  have hfo : f o = tableObj vs' := tabOf_eq h2
  have hv : vs' = vs ++ more.toArray := by
    apply Array.ext'
    rw [Array.toList_append, h3]
  have hs : Heap.SameBut a s.heap (s.heap.update a f) := Heap.SameBut.update ..
  have g := (R.ktH a o e).1
  have hf : (f o).isFreed = false := by rw [hfo]; rfl
  have ge : (s.heap.update a f).get? a = some (f o) := by first | exact Heap.get?_update_self f g hf | exact Heap.get?_update_self _ g hf
  have k1 : ∀ c x, s.heap.get? c = some x → c ≠ a → (s.heap.update a f).get? c = some x := fun c x h ne => (hs.2 c ne).trans h
  refine ⟨by show V.N ≤ (s.heap.update a f).objs.size; rw [hs.1]; exact R.size, by show hb.objs.size ≤ (s.heap.update a f).objs.size; rw [hs.1]; exact R.hbsz, fun c x h => ?_, fun i c x h => ?_, R.dis, fun c x h q1 q2 => ?_, fun c x h q1 => ?_, fun c hc => ?_, R.gens, R.os⟩
  · rw [kt_put hl] at h
    by_cases q : c = a
    · rw [if_pos q] at h
      cases h
      subst q
      exact ⟨ge, (R.ktH c o e).2⟩
    · rw [if_neg q] at h
      exact ⟨k1 _ _ (R.ktH c x h).1 q, (R.ktH c x h).2⟩
  · have y := R.TH i c x h
    exact ⟨k1 _ _ y.1 (ne_ll' (R.ktH a o e).2 y.2.1), y.2⟩
  · exact k1 _ _ (R.keep c x h q1 q2) fun w => q2 (w ▸ hm)
  · exact k1 _ _ (R.keep₁ c x h q1) fun w => q1 (w ▸ hm)
  · obtain ⟨c', ps, vs₀, more₀, t1, t2, t3⟩ := R.tabs c hc
    by_cases q : c = a
    · subst q
      have : vs₀ = vs := by
        have w := t2.symm.trans g
        rw [ho] at w
        injection w with w
        have : (tableObj vs₀).data = (tableObj vs).data := congrArg Obj.data w
        injection this
      subst this
      exact ⟨c', ps, vs', more₀ ++ more.toArray, t1, by rw [← hfo]; exact ge, by rw [hv, t3, Array.append_assoc]⟩
    · exact ⟨c', ps, vs₀, more₀, t1, k1 _ _ t2 q, t3⟩
/-- two new objects behind a turned entry -/
theorem Rep.make (O : V.Ok) (R : Rep V hb D kt T s) {s' : Shared} {j m : Nat} {b x y : Addr} {o o' n1 n2 : Obj} (e : T.get j = some (b, o)) (hj : j < 1000002) (hm : m < 1000001)
    (k1 : ∀ a x, s.heap.get? a = some x → a ≠ b → s'.heap.get? a = some x) (k2 : s'.heap.get? b = some o') (k3 : s.heap.objs.size ≤ s'.heap.objs.size) (hx : s.heap.objs.size ≤ x) (hy : s.heap.objs.size ≤ y) (hxy : x ≠ y)
    (kx : s'.heap.get? x = some n1) (ky : s'.heap.get? y = some n2) (hg : s'.gens = #[]) (ho : s'.os = s.os) :
    Rep V hb D kt (((T.put 40 j (b, o')).put 40 m (x, n1)).put 40 (m + 1) (y, n2)) s' := by
  have R1 := R.turn O e hj k1 k2 k3 hg ho
  have lowb : ∀ i c q, (T.put 40 j (b, o')).get i = some (c, q) → c < s.heap.objs.size := by
    intro i c q h
    rw [pt_put hj] at h
    by_cases w : i = j
    · rw [if_pos w] at h; cases h; exact lt_of_get (R.TH j _ _ e).1
    · rw [if_neg w] at h; exact lt_of_get (R.TH i _ _ h).1
  have hbx : ∀ c, s.heap.objs.size ≤ c → hb.get? c = none := fun c h => get_none_of_ge (Nat.le_trans R.hbsz h)
  have g : ∀ i c q, (((T.put 40 j (b, o')).put 40 m (x, n1)).put 40 (m + 1) (y, n2)).get i = some (c, q) → (i = m + 1 ∧ c = y ∧ q = n2) ∨ (i = m ∧ c = x ∧ q = n1) ∨ (i ≠ m + 1 ∧ i ≠ m ∧ (T.put 40 j (b, o')).get i = some (c, q)) := by
    intro i c q h
    rw [pt_put (by omega)] at h
    by_cases w : i = m + 1
    · rw [if_pos w] at h; cases h; exact .inl ⟨w, rfl, rfl⟩
    · rw [if_neg w, pt_put (by omega)] at h
      by_cases w2 : i = m
      · rw [if_pos w2] at h; cases h; exact .inr (.inl ⟨w2, rfl, rfl⟩)
      · rw [if_neg w2] at h; exact .inr (.inr ⟨w, w2, h⟩)
  refine ⟨R1.size, R1.hbsz, R1.ktH, fun i c q h => ?_, fun i i' c q q' h h' => ?_, R1.keep, R1.keep₁, R1.tabs, R1.gens, R1.os⟩
  · rcases g i c q h with ⟨_, rfl, rfl⟩ | ⟨_, rfl, rfl⟩ | ⟨_, _, w⟩
    · exact ⟨ky, Nat.le_trans R.size hy, .inr (hbx _ hy)⟩
    · exact ⟨kx, Nat.le_trans R.size hx, .inr (hbx _ hx)⟩
    · exact R1.TH i c q w
  · rcases g i c q h with ⟨a1, a2, _⟩ | ⟨a1, a2, _⟩ | ⟨_, _, a3⟩ <;> rcases g i' c q' h' with ⟨b1, b2, _⟩ | ⟨b1, b2, _⟩ | ⟨_, _, b3⟩
    · rw [a1, b1]
    · exact absurd (b2.symm.trans a2) hxy
    · exact absurd (a2 ▸ lowb _ _ _ b3) (Nat.not_lt.mpr hy)
    · exact absurd (a2.symm.trans b2) hxy
    · rw [a1, b1]
    · exact absurd (a2 ▸ lowb _ _ _ b3) (Nat.not_lt.mpr hx)
    · exact absurd (b2 ▸ lowb _ _ _ a3) (Nat.not_lt.mpr hy)
    · exact absurd (b2 ▸ lowb _ _ _ a3) (Nat.not_lt.mpr hx)
    · exact R1.dis i i' c q q' a3 b3
theorem Rep.toks (R : Rep V hb D kt T s) (t : Nat) : Rep V hb D kt T { s with toks := t } := ⟨R.size, R.hbsz, R.ktH, R.TH, R.dis, R.keep, R.keep₁, R.tabs, R.gens, R.os⟩
/-- fewer entries -/
theorem Rep.less (R : Rep V hb D kt T s) {kt' : KT} {T' : PT} (hk : ∀ a o, kt'.get a = some o → kt.get a = some o) (hT : ∀ j x, T'.get j = some x → T.get j = some x) : Rep V hb D kt' T' s :=
  ⟨R.size, R.hbsz, fun a o e => R.ktH a o (hk a o e), fun j b o e => R.TH j b o (hT j _ e), fun i j b o o' e e' => R.dis i j b o o' (hT i _ e) (hT j _ e'), R.keep, R.keep₁, R.tabs, R.gens, R.os⟩
end
end Mine
end
section
open PySem PySem.W PySem.W.X
open Sem (wp)
set_option maxRecDepth 100000
namespace Mine
section
variable {M : Model} {g : PySem.Ctx}
theorem frames_of {env : Env} {outer : List Env} {f : Addr} {Q : Value → Pos → Shared → Prop} {E : Value → Pos → Shared → Prop} {p : Pos} {s : Shared} (hes : g.code.envs ++ envsOf g.below = env :: outer) (hf : env.frame = some f)
    (h : wp M g (readyFrames (env :: outer)) (fun _ p' s' => Q (.ref f) p' s') E p s) : wp M g (PySem.frameOf env) Q E p s := by
  unfold PySem.frameOf frameEnvs
  simp only [Sem.wp_bind', Sem.wp_map]
  show wp M g (Sem.stack _) _ _ p s
  rw [Sem.wp_stack]
  simp only [Sem.wp_pure, Sem.wp_pure']
  have e : (((g.code, p) :: g.below).filter (·.1.isFrame)).filterMap (·.1.env?) = env :: outer := by
    rw [← hes, ← envsOf_cons g.code p g.below]; rfl
  rw [e]
  have e2 : (env :: outer).dropWhile (fun x => x.frame != env.frame) = env :: outer := by
    rw [List.dropWhile_cons]; simp
  rw [e2]
  unfold frameObject
  simp only [Sem.wp_bind', Sem.wp_pure']
  refine Sem.wp_mono M g _ (fun _ p' s' hq => ?_) (fun _ _ _ x => x) p s h
  rw [hf]
  simpa using hq
theorem note_sound {env : Env} {outer : List Env} {e : Value} {Q : Unit → Pos → Shared → Prop} {E : Value → Pos → Shared → Prop} {p : Pos} {s : Shared} (hes : g.code.envs ++ envsOf g.below = env :: outer)
    (h : wp M g (noteM (env :: outer) e) Q E p s) : wp M g (noteFrame e env) Q E p s := by
  rw [show @noteFrame = Z.noteFrameQ from Z.noteFrameQ_eq]
  unfold Z.noteFrameQ
  unfold noteM at h
  dsimp only at h ⊢
  cases hf : env.frame with
  | none => rw [hf] at h; simp at h
  | some f =>
    rw [hf] at h
    dsimp only at h ⊢
    simp only [Sem.wp_bind'] at h ⊢
    refine Sem.wp_mono M g _ (fun head p1 s1 h1 => ?_) (fun _ _ _ x => x) p s h
    cases hh : head != Value.none with
    | false =>
      rw [hh] at h1
      dsimp only at h1 ⊢
      rw [if_neg (by decide)]
      simp only [Sem.wp_bind'] at h1 ⊢
      exact frames_of hes hf h1
    | true =>
      rw [hh] at h1
      dsimp only at h1 ⊢
      rw [if_pos rfl]
      simp only [Sem.wp_bind'] at h1 ⊢
      refine Sem.wp_mono M g _ (fun x p2 s2 h2 => ?_) (fun _ _ _ x => x) p1 s1 h1
      cases hx : x == rawInt f with
      | true =>
        rw [hx] at h2
        rw [if_pos rfl]
        exact h2
      | false =>
        rw [hx] at h2
        dsimp only at h2
        rw [if_neg (by decide)]
        simp only [Sem.wp_bind'] at h2 ⊢
        refine Sem.wp_mono M g _ (fun _ p3 s3 h3 => ?_) (fun _ _ _ x => x) p2 s2 h2
        exact frames_of hes hf h3
end
end Mine
end
section
open PySem PySem.W PySem.W.X
open Sem (wp)
set_option maxRecDepth 100000
namespace Mine
noncomputable def D0 : Den := ⟨denote table, execs, eval, handleBy, methodCall, loadName, fun f a => call f a, dropValue⟩
theorem supBaseD_eq (env : Env) (p1 : Pos) : supBaseD D0 env p1 = supBase env p1 := rfl
/-- what becomes of a raise: the handlers, then the caller -/
noncomputable def Hnd (M : Model) (R : Result → Shared → Prop) (g : PySem.Ctx) : List (Value → Sem Fin) → Value → Pos → Shared → Prop
  | [] => fun e _ s => R (.error e) s
  | h :: L => fun e p s => wp M g (h e) (Sem.finPost M g R) (Hnd M R g L) p s
noncomputable def PostK (M : Model) (R₀ : Result → Shared → Prop) : List KF → Result → Shared → Prop
  | [] => R₀
  | f :: K => fun r s => wp M f.g (f.k r) (Sem.finPost M f.g (PostK M R₀ K)) (Hnd M (PostK M R₀ K) f.g f.L) f.p s
noncomputable def Means (M : Model) (R₀ : Result → Shared → Prop) (t : Sem Fin) (L : List (Value → Sem Fin)) (g : PySem.Ctx) (p : Pos) (K : List KF) (s : Shared) : Prop :=
  wp M g t (Sem.finPost M g (PostK M R₀ K)) (Hnd M (PostK M R₀ K) g L) p s
section
variable {prog : Program} {w : World} {g : PySem.Ctx} {R : Result → Shared → Prop} {s : Shared}
theorem leave_sound {env : Env} {outer : List Env} {e : Value} {p : Pos} (hes : g.code.envs ++ envsOf g.below = env :: outer)
    (h : Hnd (model prog w) R g [leaveH (env :: outer)] e p s) : wp (model prog w) g (leaving env e) (fun _ _ s' => R (.error e) s') (fun e' _ s' => R (.error e') s') p s := by
  have h : wp (model prog w) g (leaveH (env :: outer) e) (Sem.finPost (model prog w) g R) (fun e' _ s' => R (.error e') s') p s := h
  unfold leaveH at h
  unfold leaving
  simp only [Sem.wp_bind'] at h ⊢
  refine note_sound hes (Sem.wp_mono _ g _ (fun _ p1 s1 h1 => ?_) (fun _ _ _ x => x) p s h)
  refine Sem.wp_mono _ g _ (fun _ p2 s2 h2 => ?_) (fun _ _ _ x => x) p1 s1 h1
  exact h2
theorem envs_func {body : List Stmt} {env : Env} {p : Pos} {l : List (Code × Pos)} : envsOf ((Code.func body env, p) :: l) = env :: envsOf l := by
  rw [envsOf_cons]; rfl
theorem envs_expr {e : PySem.Expr} {env : Env} {p : Pos} {l : List (Code × Pos)} : envsOf ((Code.expr e env, p) :: l) = env :: envsOf l := by
  rw [envsOf_cons]; rfl
/-- a def's body without a try at its head -/
theorem func_sound {body : List Stmt} {env : Env} {p : Pos} (hc : g.code = .func body env)
    (h : wp (model prog w) g (do
        point
        let f ← execs body env
        match f with
        | .ret v => ret v
        | _ => ret .none) (Sem.finPost (model prog w) g R) (Hnd (model prog w) R g [leaveH (env :: envsOf g.below)]) p s) : wpCode (model prog w) g R p s := by
  rw [wpCode_iff_wp, hc]
  show wp (model prog w) g (denote table (.func body env)) _ _ p s
  unfold denote
  have hes : g.code.envs ++ envsOf g.below = env :: envsOf g.below := by rw [hc]; rfl
  simp only [Sem.wp_bind', Sem.wp_onRaise] at h ⊢
  change wp (model prog w) g (execs body env) _ _ p s at h
  show wp (model prog w) g (execs body env) _ _ p s
  refine Sem.wp_mono _ g _ (fun f p2 s2 h2 => ?_) (fun e p2 s2 h2 => leave_sound hes h2) p s h
  cases f <;> exact h2
theorem expr_sound {x : PySem.Expr} {env : Env} {p : Pos} (hc : g.code = .expr x env)
    (h : wp (model prog w) g (do
        point
        let v ← eval x env
        ret v) (Sem.finPost (model prog w) g R) (Hnd (model prog w) R g [leaveH (env :: envsOf g.below)]) p s) : wpCode (model prog w) g R p s := by
  rw [wpCode_iff_wp, hc]
  show wp (model prog w) g (denote table (.expr x env)) _ _ p s
  unfold denote
  have hes : g.code.envs ++ envsOf g.below = env :: envsOf g.below := by rw [hc]; rfl
  simp only [Sem.wp_bind', Sem.wp_onRaise] at h ⊢
  change wp (model prog w) g (eval x env) _ _ p s at h
  show wp (model prog w) g (eval x env) _ _ p s
  exact Sem.wp_mono _ g _ (fun f p2 s2 h2 => h2) (fun e p2 s2 h2 => leave_sound hes h2) p s h
/-- a def whose body begins with a try, the handlers end by a return -/
theorem try_sound {b rest : List Stmt} {h0 : ExceptHandler} {hs : List ExceptHandler} {pos p : Pos} {env : Env} (hc : g.code = .func (.Try b (h0 :: hs) [] [] pos :: rest) env)
    (h : wp (model prog w) g (do point; standAt pos; let _ ← execs b env; unsupported "the try falls through") (Sem.finPost (model prog w) g R)
      (Hnd (model prog w) R g [tryH D0 (env :: envsOf g.below) env (h0 :: hs), leaveH (env :: envsOf g.below)]) p s) : wpCode (model prog w) g R p s := by
  rw [wpCode_iff_wp, hc]
  show wp (model prog w) g (denote table (.func (.Try b (h0 :: hs) [] [] pos :: rest) env)) _ _ p s
  unfold denote
  have hes : g.code.envs ++ envsOf g.below = env :: envsOf g.below := by rw [hc]; rfl
  simp only [Sem.wp_bind', Sem.wp_onRaise] at h ⊢
  change wp (model prog w) g (execs b env) _ _ pos s at h
  show wp (model prog w) g (execs (.Try b (h0 :: hs) [] [] pos :: rest) env) _ _ p s
  unfold execs
  simp only [Sem.wp_bind']
  unfold exec
  simp only [Sem.wp_bind']
  show wp (model prog w) g (tryStmt false (execs b env) (h0 :: hs) (execs [] env) [] env) _ _ pos s
  unfold tryStmt
  simp only [List.isEmpty_nil, if_true, Sem.wp_bind', Sem.wp_attempt]
  refine Sem.wp_mono _ g _ (fun f p1 s1 h1 => ?_) (fun e p1 s1 h1 => ?_) pos s h
  · exact h1.elim
  · have h1 : wp (model prog w) g (tryH D0 (env :: envsOf g.below) env (h0 :: hs) e) (Sem.finPost (model prog w) g R) (Hnd (model prog w) R g [leaveH (env :: envsOf g.below)]) p1 s1 := h1
    unfold tryH at h1
    simp only [Sem.wp_bind'] at h1 ⊢
    refine note_sound hes (Sem.wp_mono _ g _ (fun _ p2 s2 h2 => ?_) (fun e' p2 s2 h2 => leave_sound hes h2) p1 s1 h1)
    simp only [List.isEmpty_cons, Bool.false_eq_true, if_false, Bool.false_and, Sem.wp_bind'] at h2 ⊢
    refine Sem.wp_mono _ g _ (fun _ p3 s3 h3 => ?_) (fun e' p3 s3 h3 => leave_sound hes h3) p2 s2 h2
    refine Sem.wp_mono _ g _ (fun f p4 s4 h4 => ?_) (fun e' p4 s4 h4 => leave_sound hes h4) p3 s3 h3
    cases f with
    | ret v => exact h4
    | next => exact False.elim h4
    | brk => exact False.elim h4
    | cont => exact False.elim h4
theorem comps_none {body : List Stmt} {env : Env} {Q : List Env → Pos → Shared → Prop} {E : Value → Pos → Shared → Prop} {p : Pos} {M : Model} (hc : g.code = .func body env) (h : Q [] p s) : wp M g comprehensionsAround Q E p s := by
  unfold comprehensionsAround callersCodes
  simp only [Sem.wp_bind']
  show Sem.wp M g (Sem.stack _) _ _ p s
  rw [Sem.wp_stack, hc]
  simp only [Sem.wp_pure, Sem.wp_pure']
  split
  · rename_i hc
    exact absurd (show (some env.frame != some env.frame) = true from hc) (by simp)
  · exact h
theorem supBase_sound {body : List Stmt} {env : Env} {p0 p1 p : Pos} {id attr : Str} {whole : Sem Value} {Q : Value → Pos → Shared → Prop} {E : Value → Pos → Shared → Prop} (hc : g.code = .func body env)
    (h1 : (id == "super") = true) (h2 : (attr == "__class__") = false) (h3 : (env.kindOf "super" == some .globalImplicit) = true) (h4 : (env.kindOf "__class__" == some .free) = true) (h5 : (env.code != .none) = true)
    (h : wp (model prog w) g (supBase env p1) Q E p s) : wp (model prog w) g (attributeBase (.Call (.Name id p0) [] [] p1) attr env whole) Q E p s := by
  unfold attributeBase
  unfold supBase at h
  have h1 : (id != "super") = false := by rw [bne, h1]; rfl
  have h3' : (env.kindOf "super" != some .globalImplicit) = false := by rw [bne, h3]; rfl
  have h4' : (env.kindOf "__class__" != some .free) = false := by rw [bne, h4]; rfl
  simp only [h1, h2, h3', h4', Bool.or_self, Bool.false_eq_true, if_false]
  split at h
  · exact h.elim
  · rename_i f hf
    simp only [hf, Option.isSome_some, if_true, pure_bind, h4', Bool.false_eq_true, if_false]
    simp only [Sem.wp_bind'] at h ⊢
    refine Sem.wp_mono _ g _ (fun fd p1' s1 h' => ?_) (fun _ _ _ x => x) _ s h
    split at h'
    · exact h'.elim
    · rename_i first hfirst
      simp only [hfirst]
      simp only [Sem.wp_bind'] at h' ⊢
      refine Sem.wp_mono _ g _ (fun st p2' s2 h' => ?_) (fun _ _ _ x => x) _ _ h'
      split
      · rename_i e
        rw [e] at h5; exact absurd h5 (by decide)
      refine Sem.wp_mono _ g _ (fun fl p3' s3 h' => ?_) (fun _ _ _ x => x) _ _ h'
      split at h'
      · rename_i file tk
        split at h'
        · rename_i hfile
          split at h'
          · exact h'.elim
          · rename_i htop
            dsimp only
            rw [if_pos hfile]
            dsimp only
            rw [if_neg (by rw [htop]; decide)]
            simp only [Sem.wp_bind'] at h' ⊢
            rw [Sem.wp_cmd_rule]
            refine Sem.wp_mono _ g _ (fun a2 p5 s5 h' => ?_) (fun _ _ _ x => x) _ _ h'
            refine Sem.wp_mono _ g _ (fun a3 p6 s6 h' => ?_) (fun _ _ _ x => x) _ _ h'
            refine Sem.wp_mono _ g _ (fun a4 p7 s7 h' => ?_) (fun _ _ _ x => x) _ _ h'
            refine comps_none hc ?_
            show wp (model prog w) g (loadName env first.arg) _ _ _ _
            refine Sem.wp_mono _ g _ (fun a5 p8 s8 h' => ?_) (fun _ _ _ x => x) _ _ h'
            refine Sem.wp_mono _ g _ (fun a6 p9 s9 h' => ?_) (fun _ _ _ x => x) _ _ h'
            split at h'
            · rename_i hh
              rw [if_pos (by exact hh)]
              exact h'
            · exact h'.elim
        · exact h'.elim
      · exact h'.elim
theorem sup_sound {e : PySem.Expr} {rest : List Stmt} {p4 p : Pos} {env : Env} (hc : g.code = .func (.Expr e p4 :: rest) env) (hs : isSup e env = true)
    (h : wp (model prog w) g (do
          point
          standAt p4
          let v ← supE D0 e env
          let f0 ← dropValue e p4 v
          match f0 with
          | .next => do
            let f ← execs rest env
            match f with
            | .ret v => ret v
            | _ => ret .none
          | _ => unsupported "sup") (Sem.finPost (model prog w) g R) (Hnd (model prog w) R g [leaveH (env :: envsOf g.below)]) p s) : wpCode (model prog w) g R p s := by
  rw [wpCode_iff_wp, hc]
  show wp (model prog w) g (denote table (.func (.Expr e p4 :: rest) env)) _ _ p s
  unfold denote
  have hes : g.code.envs ++ envsOf g.below = env :: envsOf g.below := by rw [hc]; rfl
  simp only [Sem.wp_bind', Sem.wp_onRaise] at h ⊢
  unfold isSup at hs
  split at hs
  · rename_i id p0 p1 attr p2 nm np p3
    simp only [Bool.and_eq_true, Bool.not_eq_true'] at hs
    obtain ⟨⟨⟨⟨⟨h1, h2⟩, h3⟩, h4⟩, h5⟩, h6⟩ := hs
    unfold supE at h
    simp only [Sem.wp_bind', supBaseD_eq] at h
    change wp (model prog w) g (supBase env p1) _ _ p4 s at h
    show wp (model prog w) g (execs _ env) _ _ p s
    unfold execs
    simp only [Sem.wp_bind']
    unfold exec
    simp only [Sem.wp_bind']
    show wp (model prog w) g (if interactive env = true then _ else _) _ _ p4 s
    rw [if_neg (by rw [h6]; decide)]
    show wp (model prog w) g (eval (.Call (.Attribute (.Call (.Name id p0) [] [] p1) attr p2) [.Name nm np] [] p3) env >>= _) _ _ _ _
    unfold eval
    simp only [Sem.wp_bind']
    refine supBase_sound hc h1 h2 h3 h4 h5 ?_
    refine Sem.wp_mono _ g _ (fun ov q3 s3 h => ?_) (fun e q s' h => leave_sound hes h) _ _ h
    refine Sem.wp_mono _ g _ (fun _ q4 s4 h => ?_) (fun e q s' h => leave_sound hes h) _ _ h
    refine Sem.wp_mono _ g _ (fun v q5 s5 h => ?_) (fun e q s' h => leave_sound hes h) _ _ h
    refine Sem.wp_mono _ g _ (fun f0 q6 s6 h => ?_) (fun e q s' h => leave_sound hes h) _ _ h
    cases f0 with
    | next =>
      simp only [Sem.wp_bind'] at h
      refine Sem.wp_mono _ g _ (fun f q7 s7 h => ?_) (fun e q s' h => leave_sound hes h) _ _ h
      cases f <;> exact h
    | _ => exact h.elim
  · cases hs
theorem entry_sound {c : Code} {p : Pos} (hc : g.code = c) (h : wp (model prog w) g (entry D0 g c).1 (Sem.finPost (model prog w) g R) (Hnd (model prog w) R g (entry D0 g c).2) p s) : wpCode (model prog w) g R p s := by
  have plain : ∀ c', g.code = c' → wp (model prog w) g (denote table c') (Sem.finPost (model prog w) g R) (Hnd (model prog w) R g []) p s → wpCode (model prog w) g R p s := fun c' hc' h => by
    rw [wpCode_iff_wp, hc']
    exact h
  cases c with
  | func body env =>
    have normal : (entry D0 g (.func body env) = (do
        point
        let f ← execs body env
        match f with
        | .ret v => ret v
        | _ => ret .none, [leaveH (envsOf ((Code.func body env, default) :: g.below))])) → wpCode (model prog w) g R p s := fun e => by
      rw [e, envs_func] at h
      exact func_sound hc h
    cases body with
    | nil => exact normal rfl
    | cons st rest =>
      cases st with
      | Try b hs oe fin pos =>
        cases oe with
        | cons _ _ => exact plain _ hc h
        | nil =>
          cases fin with
          | cons _ _ => exact plain _ hc h
          | nil =>
            cases hs with
            | nil => exact plain _ hc h
            | cons h0 hs =>
              have e : entry D0 g (.func (.Try b (h0 :: hs) [] [] pos :: rest) env) = (do point; standAt pos; let _ ← execs b env; unsupported "the try falls through", [tryH D0 (envsOf ((Code.func (.Try b (h0 :: hs) [] [] pos :: rest) env, pos) :: g.below)) env (h0 :: hs), leaveH (envsOf ((Code.func (.Try b (h0 :: hs) [] [] pos :: rest) env, pos) :: g.below))]) := rfl
              rw [e, envs_func] at h
              exact try_sound hc h
      | Expr e p4 =>
        cases hs : isSup e env with
        | false => exact normal (by show (match isSup e env with | true => _ | false => _) = _; rw [hs]; rfl)
        | true =>
          have e' : entry D0 g (.func (.Expr e p4 :: rest) env) = (do
            point
            standAt p4
            let v ← supE D0 e env
            let f0 ← dropValue e p4 v
            match f0 with
            | .next => do
              let f ← execs rest env
              match f with
              | .ret v => ret v
              | _ => ret .none
            | _ => unsupported "sup", [leaveH (envsOf ((Code.func (.Expr e p4 :: rest) env, default) :: g.below))]) := by show (match isSup e env with | true => _ | false => _) = _; rw [hs]; rfl
          rw [e', envs_func] at h
          exact sup_sound hc hs h
      | _ => exact normal rfl
  | expr x env =>
    have e : entry D0 g (.expr x env) = (do
        point
        let v ← eval x env
        ret v, [leaveH (envsOf ((Code.expr x env, default) :: g.below))]) := rfl
    rw [e, envs_expr] at h
    exact expr_sound hc h
  | _ => exact plain _ hc h
end
end Mine
end
section
open PySem PySem.W PySem.W.X
open Sem (wp)
set_option maxRecDepth 100000
namespace Mine
noncomputable abbrev Ob (acc : Obl) : Prop := ∀ x ∈ acc, x.1 = x.2
/-- what the kernel's run must come to -/
noncomputable def Good (V : Vx) (R₀ : Result → Shared → Prop) (hb : Heap) (D : List Addr) : Out → Prop
  | .fin r kt T _ acc => Ob acc ∧ ∀ s, Rep V hb D kt T s → R₀ r s
  | .agn c g p kt T _ acc => Ob acc ∧ ∀ s, Rep V hb D kt T s → wpCode (model V.prog V.w) (g.goto c) R₀ p s
  | .cut c hd k L g p K kt T _ acc => Ob acc ∧ ∀ s, Rep V hb D kt T s → wpCode (model V.prog V.w) (g.enter c hd p) (fun r s' => Means (model V.prog V.w) R₀ (k r) L g p K s') p s
  | _ => False
noncomputable def AltOk (V : Vx) (hb : Heap) (D : List Addr) (al : AltT) : Prop := ∀ op kt T s c ob t, Rep V hb D kt T s → al op kt T c = some (ob, t) → Ob ob →
  ∀ (g : PySem.Ctx) (p : Pos) (R : Result → Shared → Prop), g.code = c → unitsOf g.below + 100 < cLine → wp (model V.prog V.w) g t (Sem.finPost (model V.prog V.w) g R) (Hnd (model V.prog V.w) R g []) p s → wpCode (model V.prog V.w) g R p s
theorem cC_inj {a b : Code} (h : cC a = cC b) : a = b := by injection h with h; injection h
theorem cA_inj {a b : Nat} (h : cA a = cA b) : a = b := by have h := cC_inj h; injection h with h; injection h
theorem cL_inj {a b : List Value} (h : cL a = cL b) : a = b := by have h := cC_inj h; injection h with _ h; injection h
section
variable {V : Vx} {R₀ : Result → Shared → Prop} {hb : Heap} {D : List Addr} {al : AltT} {DD : Den} {S S' : Setting}
theorem obl_ret {ih : EvT} (IH : ∀ t L g p K kt T m ts as ce acc, Good V R₀ hb D (ih t L g p K kt T m ts as ce acc) → Ob acc) {r : Result} {K : List KF} {kt : KT} {T : PT} {m : Nat} {ts as : Nat → Nat} {ce : List Nat} {acc : Obl}
    (h : Good V R₀ hb D (retE ih r K kt T m ts as ce acc)) : Ob acc := by
  cases K with
  | nil => exact h.1
  | cons f K => exact IH _ _ _ _ _ _ _ _ _ _ _ _ h
theorem obl_go {ih : EvT} (IH : ∀ t L g p K kt T m ts as ce acc, Good V R₀ hb D (ih t L g p K kt T m ts as ce acc) → Ob acc) {x : Sem Fin × List (Value → Sem Fin)} {g : PySem.Ctx} {p : Pos} {K : List KF} {kt : KT} {T : PT} {m : Nat} {ts as : Nat → Nat} {ce : List Nat} {acc : Obl}
    (h : Good V R₀ hb D (goE ih x g p K kt T m ts as ce acc)) : Ob acc := IH _ _ _ _ _ _ _ _ _ _ _ _ h
theorem ob_tail {x : Sem Fin × Sem Fin} {acc : Obl} (h : Ob (x :: acc)) : Ob acc := fun y hy => h y (List.mem_cons_of_mem _ hy)
theorem ob_tail' {x acc : Obl} (h : Ob (x ++ acc)) : Ob acc := fun y hy => h y (List.mem_append_right _ hy)
theorem ob_head' {x acc : Obl} (h : Ob (x ++ acc)) : Ob x := fun y hy => h y (List.mem_append_left _ hy)
theorem obl_step {ih : EvT} (IH : ∀ t L g p K kt T m ts as ce acc, Good V R₀ hb D (ih t L g p K kt T m ts as ce acc) → Ob acc) :
    ∀ t L g p K kt T m ts as ce acc, Good V R₀ hb D (evStep DD S S' V.TA al ih t L g p K kt T m ts as ce acc) → Ob acc := by
  intro t L g p K kt T m ts as ce acc h
  cases t with
  | pure fin =>
    cases fin with
    | done f => exact obl_ret IH h
    | again c' =>
      simp only [evStep] at h
      repeat' split at h
      all_goals first | exact h.elim | exact h.1 | exact obl_go IH h | exact ob_tail' (IH _ _ _ _ _ _ _ _ _ _ _ _ h)
  | raise e =>
    cases L with
    | nil => exact obl_ret IH h
    | cons h0 L => exact IH _ _ _ _ _ _ _ _ _ _ _ _ h
  | rule _ k => exact IH _ _ _ _ _ _ _ _ _ _ _ _ h
  | «at» _ k => exact IH _ _ _ _ _ _ _ _ _ _ _ _ h
  | point _ k => exact IH _ _ _ _ _ _ _ _ _ _ _ _ h
  | ask k => exact ob_tail (IH _ _ _ _ _ _ _ _ _ _ _ _ h)
  | fresh k => exact IH _ _ _ _ _ _ _ _ _ _ _ _ h
  | stack k => exact IH _ _ _ _ _ _ _ _ _ _ _ _ h
  | handled own k => cases own with
    | false => exact IH _ _ _ _ _ _ _ _ _ _ _ _ h
    | true => exact h.elim
  | load a q k =>
    simp only [evStep] at h
    repeat' split at h
    all_goals first | exact h.elim | exact IH _ _ _ _ _ _ _ _ _ _ _ _ h | exact ob_tail (IH _ _ _ _ _ _ _ _ _ _ _ _ h)
  | loadIfAlive a k =>
    simp only [evStep] at h
    repeat' split at h
    all_goals first | exact h.elim | exact IH _ _ _ _ _ _ _ _ _ _ _ _ h | exact ob_tail (IH _ _ _ _ _ _ _ _ _ _ _ _ h)
  | alloc o k =>
    simp only [evStep] at h
    repeat' split at h
    all_goals first | exact h.elim | exact IH _ _ _ _ _ _ _ _ _ _ _ _ h | exact ob_tail (IH _ _ _ _ _ _ _ _ _ _ _ _ h)
  | update a q f k =>
    simp only [evStep] at h
    repeat' split at h
    all_goals first | exact h.elim | exact IH _ _ _ _ _ _ _ _ _ _ _ _ h | exact ob_tail (IH _ _ _ _ _ _ _ _ _ _ _ _ h)
  | call c' hd gd l k =>
    simp only [evStep] at h
    repeat' split at h
    all_goals first | exact h.elim | exact h.1 | exact obl_go IH h | exact ob_tail' (IH _ _ _ _ _ _ _ _ _ _ _ _ h)
  | unsupported => exact h.elim
  | finish => exact h.elim
  | register => exact h.elim
  | choose => exact h.elim
  | os => exact h.elim
  | newGen => exact h.elim
  | genState => exact h.elim
  | resume => exact h.elim
  | yield => exact h.elim
  | fork => exact h.elim
  | thread => exact h.elim
  | await => exact h.elim
theorem obl_of : ∀ n t L g p K kt T m ts as ce acc, Good V R₀ hb D (ev DD S S' V.TA al n t L g p K kt T m ts as ce acc) → Ob acc
  | 0 => fun _ _ _ _ _ _ _ _ _ _ _ _ h => h.elim
  | n + 1 => obl_step (obl_of n)
end
/-- the supply with one more ahead -/
noncomputable def cons (x : Nat) (f : Nat → Nat) : Nat → Nat
  | 0 => x
  | i + 1 => f i
section
variable {V : Vx} {R₀ : Result → Shared → Prop} {hb : Heap} {D : List Addr} {al : AltT}
noncomputable abbrev S0 (V : Vx) : Setting := ⟨V.prog, (V.w.withFollow "special-get-raises" true).params⟩
noncomputable abbrev S1 (V : Vx) : Setting := ⟨V.prog, (V.w.withFollow "special-get-raises" false).params⟩
theorem set_or (V : Vx) : (⟨V.prog, V.w.params⟩ : Setting) = S0 V ∨ (⟨V.prog, V.w.params⟩ : Setting) = S1 V := by
  have e := World.withFollow_self V.w "special-get-raises"
  cases q : V.w.params.followText "special-get-raises" with
  | true => rw [q] at e; left; unfold S0; rw [e]
  | false => rw [q] at e; right; unfold S1; rw [e]
noncomputable abbrev Snd (V : Vx) (R₀ : Result → Shared → Prop) (hb : Heap) (D : List Addr) (ih : EvT) : Prop := ∀ t L g p K kt T m ce acc, (∀ ts as, Good V R₀ hb D (ih t L g p K kt T m ts as ce acc)) → ∀ s, Rep V hb D kt T s → Means (model V.prog V.w) R₀ t L g p K s
theorem snd_ret {ih : EvT} (IH : Snd V R₀ hb D ih) {r : Result} {K : List KF} {kt : KT} {T : PT} {m : Nat} {ce : List Nat} {acc : Obl}
    (h : ∀ ts as, Good V R₀ hb D (retE ih r K kt T m ts as ce acc)) {s : Shared} (R : Rep V hb D kt T s) : PostK (model V.prog V.w) R₀ K r s := by
  cases K with
  | nil => exact (h id id).2 s R
  | cons f K => exact IH _ _ _ _ _ _ _ _ _ _ h s R
theorem step_sound (O : V.Ok) (hal : AltOk V hb D al) {ih : EvT} (OB : ∀ t L g p K kt T m ts as ce acc, Good V R₀ hb D (ih t L g p K kt T m ts as ce acc) → Ob acc) (IH : Snd V R₀ hb D ih) :
    Snd V R₀ hb D (evStep D0 (S0 V) (S1 V) V.TA al ih) := by
  intro t L g p K kt T m ce acc H s R
  unfold Means
  cases t with
  | pure fin =>
    cases fin with
    | done f =>
      rw [Sem.wp_pure]
      exact snd_ret IH H R
    | again c' =>
      rw [Sem.wp_pure]
      simp only [evStep] at H
      cases q : c'.quiet with
      | false => simp only [q] at H; exact (H id id).elim
      | true =>
        simp only [q] at H
        refine ⟨q, ?_⟩
        cases K with
        | nil => exact (H id id).2 s R
        | cons f K =>
          simp only at H
          split at H
          · exact entry_sound (g := g.goto c') rfl (IH _ _ _ _ _ _ _ _ _ _ H s R)
          · split at H
            · rename_i hr
              split at H
              · rename_i ob t e
                have ea : Ob ob := ob_head' (OB _ _ _ _ _ _ _ _ _ _ _ _ (H id id))
                exact hal _ _ _ _ _ _ _ R e ea (g.goto c') p _ rfl (Nat.le_of_ble_eq_true hr) (IH _ _ _ _ _ _ _ _ _ _ H s R)
              · exact (H id id).elim
            · exact (H id id).elim
          · exact (H id id).elim
  | raise e =>
    rw [Sem.wp_raise]
    cases L with
    | nil => exact snd_ret IH H R
    | cons h0 L => exact IH _ _ _ _ _ _ _ _ _ _ H s R
  | rule tag k => rw [Sem.wp_rule]; exact IH _ _ _ _ _ _ _ _ _ _ H s R
  | «at» q k => rw [Sem.wp_at]; exact IH _ _ _ _ _ _ _ _ _ _ H s R
  | point l k => rw [Sem.wp_point]; exact IH _ _ _ _ _ _ _ _ _ _ H s R
  | ask k =>
    rw [Sem.wp_ask]
    have ek : k (S0 V) = k (S1 V) := OB _ _ _ _ _ _ _ _ _ _ _ _ (H id id) (k (S0 V), k (S1 V)) List.mem_cons_self
    have z := IH _ _ _ _ _ _ _ _ _ _ H s R
    unfold Means at z
    rcases set_or V with e | e
    · exact (congrArg (fun t => wp (model V.prog V.w) g t (Sem.finPost (model V.prog V.w) g (PostK (model V.prog V.w) R₀ K)) (Hnd (model V.prog V.w) (PostK (model V.prog V.w) R₀ K) g L) p s) (congrArg k e)).mpr z
    · rw [ek] at z
      exact (congrArg (fun t => wp (model V.prog V.w) g t (Sem.finPost (model V.prog V.w) g (PostK (model V.prog V.w) R₀ K)) (Hnd (model V.prog V.w) (PostK (model V.prog V.w) R₀ K) g L) p s) (congrArg k e)).mpr z
  | fresh k =>
    rw [Sem.wp_fresh]
    exact IH (k s.toks) L g p K kt T m ce acc (fun ts as => H (cons s.toks ts) as) _ (R.toks _)
  | stack k => rw [Sem.wp_stack]; exact IH _ _ _ _ _ _ _ _ _ _ H s R
  | handled own k =>
    cases own with
    | true => exact (H id id).elim
    | false => rw [Sem.wp_handled]; exact IH _ _ _ _ _ _ _ _ _ _ H s R
  | load a q k =>
    rw [Sem.wp_load]
    simp only [evStep] at H
    split at H
    · split at H
      · rename_i o e
        exact ⟨o, (R.ktH a o e).1, IH _ _ _ _ _ _ _ _ _ _ H s R⟩
      · exact (H id id).elim
    · split at H
      · rename_i b o e
        have ea : a = b := cA_inj (OB _ _ _ _ _ _ _ _ _ _ _ _ (H id id) (cA a, cA b) List.mem_cons_self)
        exact ⟨o, ea ▸ (R.TH _ b o e).1, IH _ _ _ _ _ _ _ _ _ _ H s R⟩
      · exact (H id id).elim
    · exact (H id id).elim
  | loadIfAlive a k =>
    rw [Sem.wp_loadIfAlive]
    simp only [evStep] at H
    split at H
    · split at H
      · rename_i o e
        rw [(R.ktH a o e).1]
        exact IH _ _ _ _ _ _ _ _ _ _ H s R
      · exact (H id id).elim
    · split at H
      · rename_i b o e
        have ea : a = b := cA_inj (OB _ _ _ _ _ _ _ _ _ _ _ _ (H id id) (cA a, cA b) List.mem_cons_self)
        rw [ea, (R.TH _ b o e).1]
        exact IH _ _ _ _ _ _ _ _ _ _ H s R
      · exact (H id id).elim
    · exact (H id id).elim
  | alloc o k =>
    rw [Sem.wp_alloc]
    simp only [evStep] at H
    split at H
    · exact (H id id).elim
    · rename_i hf
      split at H
      · rename_i hm
        have hm : m < 1000000 := Nat.le_of_ble_eq_true hm
        have e : s.heap.objs.size - 268 + 268 = s.heap.objs.size := Nat.sub_add_cancel (Nat.le_trans O.low R.size)
        refine IH (k s.heap.objs.size) L g p K kt (T.put 40 m (s.heap.objs.size, o)) (m + 1) ce acc (fun ts as => ?_) _ (R.alloc hf (m := m) (by omega))
        have z := H ts (cons (s.heap.objs.size - 268) as)
        have c0 : cons (s.heap.objs.size - 268) as 0 = s.heap.objs.size - 268 := rfl
        rw [c0, e] at z
        exact z
      · exact (H id id).elim
  | update a q f k =>
    rw [Sem.wp_update]
    simp only [evStep] at H
    split at H
    · split at H
      · rename_i o e
        split at H
        · rename_i ht
          obtain ⟨h1, h2⟩ := Bool.and_eq_true_iff.mp ht
          have h2 : a < 1000000 := Nat.le_of_ble_eq_true h2
          split at H
          · rename_i vs e1
            split at H
            · rename_i vs' e2
              have e3 : vs'.toList = vs.toList ++ dropL vs.toList vs'.toList := cL_inj (OB _ _ _ _ _ _ _ _ _ _ _ _ (H id id) (cL vs'.toList, cL (vs.toList ++ dropL vs.toList vs'.toList)) List.mem_cons_self)
              exact ⟨by rw [(R.ktH a o e).1]; rfl, IH _ _ _ _ _ _ _ _ _ _ H _ (R.table O e h1 (Nat.lt_of_lt_of_le h2 (by decide)) e1 e2 e3)⟩
            · exact (H id id).elim
          · exact (H id id).elim
        · exact (H id id).elim
      · exact (H id id).elim
    · split at H
      · rename_i b o e
        split at H
        · exact (H id id).elim
        · rename_i hf
          split at H
          · rename_i hj
            have hj := Nat.le_of_ble_eq_true hj
            have ea : a = b := cA_inj (OB _ _ _ _ _ _ _ _ _ _ _ _ (H id id) (cA a, cA b) List.mem_cons_self)
            subst ea
            exact ⟨by rw [(R.TH _ a o e).1]; rfl, IH _ _ _ _ _ _ _ _ _ _ H _ (R.update O e (Nat.lt_of_lt_of_le hj (by decide)) hf)⟩
          · exact (H id id).elim
      · exact (H id id).elim
    · exact (H id id).elim
  | call c' hd gd l k =>
    rw [Sem.wp_call]
    simp only [evStep] at H
    split at H
    · exact entry_sound (g := g.enter c' hd p) rfl (IH _ _ _ _ (⟨k, g, p, L⟩ :: K) _ _ _ _ _ H s R)
    · split at H
      · rename_i hr
        split at H
        · rename_i ob t e
          have ea : Ob ob := ob_head' (OB _ _ _ _ _ _ _ _ _ _ _ _ (H id id))
          exact hal _ _ _ _ _ _ _ R e ea (g.enter c' hd p) p _ rfl (Nat.le_of_ble_eq_true hr) (IH _ _ _ _ (⟨k, g, p, L⟩ :: K) _ _ _ _ _ H s R)
        · exact (H id id).elim
      · exact (H id id).elim
    · exact (H id id).2 s R
    · exact (H id id).elim
  | unsupported => exact (H id id).elim
  | finish => exact (H id id).elim
  | register => exact (H id id).elim
  | choose => exact (H id id).elim
  | os => exact (H id id).elim
  | newGen => exact (H id id).elim
  | genState => exact (H id id).elim
  | resume => exact (H id id).elim
  | yield => exact (H id id).elim
  | fork => exact (H id id).elim
  | thread => exact (H id id).elim
  | await => exact (H id id).elim
theorem ev_sound (O : V.Ok) (hal : AltOk V hb D al) : ∀ n, Snd V R₀ hb D (ev D0 (S0 V) (S1 V) V.TA al n)
  | 0 => fun _ _ _ _ _ _ _ _ _ _ H _ _ => (H id id).elim
  | n + 1 => step_sound O hal (obl_of n) (ev_sound O hal n)
end
end Mine
end
section
open PySem PySem.W PySem.W.X
set_option maxRecDepth 100000
namespace Mine
noncomputable def findS (x : Str) (es : Array DictEntry) : Option Nat := match es.all fun e => isExactStrKey e.key with
  | true => es.findIdx? fun e => e.key.isStr x
  | false => none
noncomputable def intE (e : DictEntry) : Bool := match e.key with
  | .int i _ => decide (e.hash = hashInt i)
  | _ => false
noncomputable def findI (x : Int) (es : Array DictEntry) : Option Nat := match es.all intE with
  | true => es.findIdx? fun e => e.key.isInt x
  | false => none
noncomputable def getD (f : Array DictEntry → Option Nat) (k : DictEntry → Value) (d : Addr) : Sem Fin := do
  let _ ← Sem.fresh pure
  let o ← load d
  match o.data with
  | .dict es _ => match f es with
    | some i => match es[i]? with
      | some e => ret (k e)
      | none => unsupported "alt"
    | none => unsupported "alt"
  | _ => unsupported "alt"
noncomputable def setD (f : Array DictEntry → Option Nat) (v : Value) (d : Addr) : Sem Fin := do
  let _ ← Sem.fresh pure
  let o ← load d
  match o.cls == .type "dict" with
  | true => match o.data with
    | .dict es _ => match f es with
      | some i => do
        update d (Obj.mapDict fun es => es.modify i fun e => { e with val := v })
        ret .none
      | none => unsupported "alt"
    | _ => unsupported "alt"
  | false => unsupported "alt"
noncomputable def popD (f : Array DictEntry → Option Nat) (d : Addr) : Sem Fin := do
  let _ ← Sem.fresh pure
  let o ← load d
  match o.cls == .type "dict" with
  | true => match o.data with
    | .dict es _ => match Nat.ble es.size 1000 with
      | true => match f es with
        | some i => match es[i]? with
          | some e => do
            update d (Obj.mapDictKeys fun es => es.eraseIdxIfInBounds i)
            ret e.val
          | none => unsupported "alt"
        | none => unsupported "alt"
      | false => unsupported "alt"
    | _ => unsupported "alt"
  | false => unsupported "alt"
noncomputable def tupC (x : Str) (t : Addr) : Sem Fin := do
  let o ← load t
  match o.cls == .type "tuple" with
  | true => match o.data with
    | .seq xs _ => match xs.toList.all isExactStrKey with
      | true => ret (.bool (xs.toList.any fun v => v.isStr x))
      | false => unsupported "alt"
    | _ => unsupported "alt"
  | false => unsupported "alt"
/-- `+=` at a list by what is no list -/
noncomputable def iaddD (l x : Addr) : Sem Fin := do
  let ol ← load l
  let ox ← load x
  match ol.cls == .type "list" with
  | true => match ox.cls == .type "dict" || ox.cls == .type "dict_items" with
    | true => do
      let _ ← typeOf (.ref x)
      let iter ← pyIter (.ref x)
      let _ ← holding [iter] (Builtin.List.listLengthHint (.ref x))
      rule "list.extend.makes-room"
      Builtin.List.listTouch (.ref l)
      again (.builtin "list.extend.loop" ⟨[.ref l, iter, .ref l], []⟩)
    | false => unsupported "alt"
  | false => unsupported "alt"
noncomputable def readL (f : Value → Sem PyData) : List Value → Sem (List PyData)
  | [] => pure []
  | v :: vs => do
    let d ← f v
    let ds ← readL f vs
    pure (d :: ds)
/-- a value's data, read from the heap -/
noncomputable def readV : Nat → Value → Sem PyData
  | 0, _ => unsupported "alt"
  | n + 1, v => match v with
    | .none => pure .none
    | .bool b => pure (.bool b)
    | .int i _ => pure (.int i)
    | .str x _ => pure (.str x)
    | .ref a => do
      let o ← load a
      match o.data with
      | .seq vs _ => match o.cls == .type "tuple" with
        | true => do
          let ds ← readL (readV n) vs.toList
          pure (.tuple ds)
        | false => match o.cls == .type "list" with
          | true => do
            let ds ← readL (readV n) vs.toList
            pure (.list ds)
          | false => unsupported "alt"
      | _ => unsupported "alt"
    | _ => unsupported "alt"
noncomputable def neD (tup : Bool) (a b : Addr) : Sem Fin := do
  let x ← readV 9 (.ref a)
  let y ← readV 9 (.ref b)
  match x.canLay0 && y.canLay0 && Nat.ble x.depth 64 with
  | true => match x with
    | .tuple xs => match y with
      | .tuple ys => match tup with
        | true => ret (.bool (!PyData.eqvAll xs ys))
        | false => unsupported "alt"
      | _ => unsupported "alt"
    | .list xs => match y with
      | .list ys => match tup with
        | false => ret (.bool (!PyData.eqvAll xs ys))
        | true => unsupported "alt"
      | _ => unsupported "alt"
    | _ => unsupported "alt"
  | false => unsupported "alt"
noncomputable def strV (v v' : Value) : Bool := match v with
  | .str x _ => v'.isStr x
  | _ => false
noncomputable def inD (fs : Array DictEntry) (e : DictEntry) : Bool := match e.key with
  | .str x _ => match fs.findIdx? fun e => e.key.isStr x with
    | some j => match fs[j]? with
      | some f => strV e.val f.val
      | none => false
    | none => false
  | _ => false
/-- two dicts of strs that are equal -/
noncomputable def eqD (a b : Addr) : Sem Fin := do
  let o ← load a
  let o' ← load b
  match o.cls == .type "dict" && o'.cls == .type "dict" && !(a == sysModules) && !(b == sysModules) with
  | true => match o.data with
    | .dict es _ => match o'.data with
      | .dict fs _ => match Nat.beq es.size fs.size && (fs.all fun e => isExactStrKey e.key) && es.toList.all (inD fs) with
        | true => ret (.bool true)
        | false => unsupported "alt"
      | _ => unsupported "alt"
    | _ => unsupported "alt"
  | false => unsupported "alt"
/-- a comprehension's start over an iterator -/
noncomputable def compD (c : Code) (it : Addr) : Sem Fin := do
  let o ← load it
  match o.cls == .type "list_iterator" || o.cls == .type "str_ascii_iterator" || o.cls == .type "dict_keyiterator" with
  | true => again c
  | false => unsupported "alt"
/-- a range's iterator with items left: item, left behind it, step -/
noncomputable def rnOf (o : Obj) : Option (Int × Nat × Int) := match o with
  | ⟨.type n, none, .fields ⟨[.int x 0, .int (.ofNat (r + 1)) 0, .int st 0]⟩, ⟨[]⟩⟩ => match n == "range_iterator" with
    | true => some (x, r, st)
    | false => none
  | _ => none
noncomputable def rnD (it : Addr) : Sem Fin := do
  let o ← load it
  match rnOf o with
  | some (x, r, st) => do
    update it (Obj.mapFields fun vs => vs.setIfInBounds 0 (rawInt (x + st)))
    update it (Obj.mapFields fun vs => vs.setIfInBounds 1 (rawInt (.ofNat r)))
    let t ← Sem.fresh pure
    ret (.int x t)
  | none => unsupported "alt"
noncomputable def alt : AltT := fun op _ _ c => match op with
  | 0 => match c with
    | .builtin _ ⟨[.ref d, .str x t], _⟩ => some ([(cC c, cC (.builtin "dict.__getitem__" ⟨[.ref d, .str x t], []⟩))], getD (findS x) DictEntry.val d)
    | _ => none
  | 1 => match c with
    | .builtin _ ⟨[.ref d, .str x t], _⟩ => some ([(cC c, cC (.builtin "dict.__contains__" ⟨[.ref d, .str x t], []⟩))], getD (findS x) (fun _ => .bool true) d)
    | _ => none
  | 2 => match c with
    | .builtin _ ⟨[.ref d, .str x t, v], _⟩ => some ([(cC c, cC (.builtin "dict.__setitem__" ⟨[.ref d, .str x t, v], []⟩))], setD (findS x) v d)
    | _ => none
  | 3 => match c with
    | .builtin _ ⟨[.ref d, .int x t], _⟩ => some ([(cC c, cC (.builtin "dict.__getitem__" ⟨[.ref d, .int x t], []⟩))], getD (findI x) DictEntry.val d)
    | _ => none
  | 4 => match c with
    | .builtin _ ⟨[.ref d, .int x t], _⟩ => some ([(cC c, cC (.builtin "dict.__contains__" ⟨[.ref d, .int x t], []⟩))], getD (findI x) (fun _ => .bool true) d)
    | _ => none
  | 9 => match c with
    | .builtin _ ⟨[.ref l, .ref x], _⟩ => some ([(cC c, cC (.builtin "tuple.__ne__" ⟨[.ref l, .ref x], []⟩))], neD true l x)
    | _ => none
  | 10 => match c with
    | .builtin _ ⟨[.ref l, .ref x], _⟩ => some ([(cC c, cC (.builtin "list.__ne__" ⟨[.ref l, .ref x], []⟩))], neD false l x)
    | _ => none
  | 11 => match c with
    | .builtin _ ⟨[.ref l, .ref x], _⟩ => some ([(cC c, cC (.builtin "dict.__eq__" ⟨[.ref l, .ref x], []⟩))], eqD l x)
    | _ => none
  | 8 => match c with
    | .builtin _ ⟨[.ref l, .ref x], _⟩ => some ([(cC c, cC (.builtin "list.__iadd__" ⟨[.ref l, .ref x], []⟩))], iaddD l x)
    | _ => none
  | 5 => match c with
    | .builtin _ ⟨[.ref d, .str x t], _⟩ => some ([(cC c, cC (.builtin "dict.pop" ⟨[.ref d, .str x t], []⟩))], popD (findS x) d)
    | _ => none
  | 6 => match c with
    | .builtin _ ⟨[.ref d, .int x t], _⟩ => some ([(cC c, cC (.builtin "dict.pop" ⟨[.ref d, .int x t], []⟩))], popD (findI x) d)
    | _ => none
  | 7 => match c with
    | .builtin _ ⟨[.ref d, .str x t], _⟩ => some ([(cC c, cC (.builtin "tuple.__contains__" ⟨[.ref d, .str x t], []⟩))], tupC x d)
    | _ => none
  | 13 => match c with
    | .builtin _ ⟨[.ref it], _⟩ => some ([(cC c, cC (.builtin "range_iterator.__next__" ⟨[.ref it], []⟩))], rnD it)
    | _ => none
  | 12 => match c with
    | .compStart (.ListComp elt (⟨target, iter, ifs, _⟩ :: rest) scope pos) 0 (.ref it) acc env => some ([(cC c, cC (.compStart (.ListComp elt (⟨target, iter, ifs, 0⟩ :: rest) scope pos) 0 (.ref it) acc env))], compD (.compLoop (.ListComp elt (⟨target, iter, ifs, 0⟩ :: rest) scope pos) 0 (.ref it) acc env) it)
    | _ => none
  | _ => none
end Mine
end
section
open PySem PySem.W PySem.W.X
open Sem (wp)
set_option maxRecDepth 100000
namespace Mine
noncomputable def Ag (g : PySem.Ctx) : Around := { handled := g.handled, depth := frameCount g.below, frames := none, guards := none, units := unitsOf g.below }
theorem below_g (g : PySem.Ctx) : PySem.Ctx.Below g (Ag g) := ⟨rfl, Nat.le_refl _, nofun, nofun, Nat.le_refl _⟩
theorem code_of {prog : Program} {w : World} {g : PySem.Ctx} {p : Pos} {R : Result → Shared → Prop} {s : Shared} {c : Code} (hc : g.code = c) (h : codeAny (model prog w) (Ag g) c R s) : wpCode (model prog w) g R p s := h g p hc (below_g g)
section
variable {prog : Program} {w : World} {g : PySem.Ctx} {p : Pos} {R : Result → Shared → Prop} {s : Shared} {L : List (Value → Sem Fin)}
theorem getD_inv {f : Array DictEntry → Option Nat} {k : DictEntry → Value} {d : Addr} {E : Value → Pos → Shared → Prop} (h : wp (model prog w) g (getD f k d) (Sem.finPost (model prog w) g R) E p s) :
    ∃ o es ep i e, s.heap.get? d = some o ∧ o.data = .dict es ep ∧ f es = some i ∧ es[i]? = some e ∧ R (.ok (.ret (k e))) { s with toks := s.toks + 1 } := by
  unfold getD at h
  obtain ⟨o, ho, h⟩ := h
  dsimp only [Sem.bind] at h
  split at h
  · rename_i es ep hd
    split at h
    · rename_i i hi
      split at h
      · rename_i e he
        exact ⟨o, es, ep, i, e, ho, hd, hi, he, h⟩
      · exact h.elim
    · exact h.elim
  · exact h.elim
structure Fnd (prog : Program) (w : World) (key : Value) (hv : Int) (f : Array DictEntry → Option Nat) : Prop where
  hash : ∀ {A : Around} {E : Value → Shared → Prop} {s : Shared} {Q : Int → Shared → Prop}, Q hv { s with toks := s.toks + 1 } → wpAny (model prog w) A (pyHash key) Q E s
  find : ∀ {A : Around} {E : Value → Shared → Prop} {s : Shared} {d : Addr} {o : Obj} {es : Array DictEntry} {ep i : Nat} {Q : Option Nat → Shared → Prop}, s.heap.get? d = some o → o.data = .dict es ep → f es = some i →
    Q (some i) s → wpAny (model prog w) A (dictFind d key hv) Q E s
  part : (keyPart key).isSome = true
theorem fndS (x : Str) (t : Tok) : Fnd prog w (.str x t) (hashStr w x) (findS x) := by
  refine ⟨wpAny_pyHash_str, ?_, rfl⟩
  intro A E s d o es ep i Q ho hd hf h
  unfold findS at hf
  split at hf
  · rename_i hall
    refine PyProof.Rows.KTD.kt_dictFind_strs ho hd hall ?_
    rw [hf]
    exact h
  · cases hf
theorem fndI (x : Int) (t : Tok) : Fnd prog w (.int x t) (hashInt x) (findI x) := by
  refine ⟨wpAny_pyHash_int, ?_, rfl⟩
  intro A E s d o es ep i Q ho hd hf h
  unfold findI at hf
  split at hf
  · rename_i hall
    have hk : KeysOf (intKind prog w) es := by
      intro e he
      have := Array.all_eq_true_iff_forall_mem.mp hall e he
      unfold intE at this
      split at this
      · rename_i j tk hkey
        exact ⟨j, by rw [hkey]; simp [intKind, Value.isInt], of_decide_eq_true this⟩
      · cases this
    refine wpAny_dictFind_of (knd := intKind prog w) (k := x) (by simp [intKind, Value.isInt]) ho hd hk ?_
    show Q (es.findIdx? fun e => e.key.isInt x) _
    rw [hf]
    exact h
  · cases hf
end
section
variable {V : Vx} {g : PySem.Ctx} {p : Pos} {R : Result → Shared → Prop} {s : Shared}
/-- what a builtin's tree must come to -/
noncomputable abbrev Bq (M : Model) (A : Around) (R : Result → Shared → Prop) : PySem.Fin → Shared → Prop := fun fin s' => match fin with
  | .done f => R (.ok f) s'
  | .again c' => c'.quiet = true ∧ codeAny M A c' R s'
theorem dictGet_fnd {prog : Program} {w : World} {A : Around} {E : Value → Shared → Prop} {key : Value} {hv : Int} {f : Array DictEntry → Option Nat} (F : Fnd prog w key hv f) {d : Addr} {o : Obj} {es : Array DictEntry} {ep i : Nat} {e : DictEntry} {Q : Option Value → Shared → Prop}
    (ho : s.heap.get? d = some o) (hd : o.data = .dict es ep) (hi : f es = some i) (he : es[i]? = some e) (h : Q (some e.val) { s with toks := s.toks + 1 }) : wpAny (model prog w) A (dictGet d key) Q E s := by
  unfold dictGet
  try with_reducible refine wpAny_holding ?_
  refine wpAny_bind (F.hash (wpAny_bind (F.find (s := { s with toks := s.toks + 1 }) ho hd hi ?_)))
  refine wpAny_bind (wpAny_dictEntries (s := { s with toks := s.toks + 1 }) ho hd (wpAny_pure ?_))
  rw [he]
  exact h
theorem ok_getitem {prog : Program} {w : World} {key : Value} {hv : Int} {f : Array DictEntry → Option Nat} (F : Fnd prog w key hv f) {d : Addr} {E : Value → Pos → Shared → Prop} (hc : g.code = .builtin "dict.__getitem__" ⟨[.ref d, key], []⟩)
    (h : wp (model prog w) g (getD f DictEntry.val d) (Sem.finPost (model prog w) g R) E p s) : wpCode (model prog w) g R p s := by
  obtain ⟨o, es, ep, i, e, ho, hd, hi, he, h⟩ := getD_inv h
  refine code_of hc (codeAny_builtin entry_dict_getitem ?_)
  show wpAny _ _ (dictGet d key >>= _) _ _ s
  exact wpAny_bind (dictGet_fnd F ho hd hi he (wpAny_pure h))
theorem ok_contains {prog : Program} {w : World} {key : Value} {hv : Int} {f : Array DictEntry → Option Nat} (F : Fnd prog w key hv f) {d : Addr} {E : Value → Pos → Shared → Prop} (hc : g.code = .builtin "dict.__contains__" ⟨[.ref d, key], []⟩)
    (h : wp (model prog w) g (getD f (fun _ => .bool true) d) (Sem.finPost (model prog w) g R) E p s) : wpCode (model prog w) g R p s := by
  obtain ⟨o, es, ep, i, e, ho, hd, hi, he, h⟩ := getD_inv h
  refine code_of hc (codeAny_builtin entry_dict_contains ?_)
  show wpAny _ _ (dictGet d key >>= _) _ _ s
  exact wpAny_bind (dictGet_fnd F ho hd hi he (wpAny_pure h))
theorem setD_inv {prog : Program} {w : World} {f : Array DictEntry → Option Nat} {v : Value} {d : Addr} {E : Value → Pos → Shared → Prop} (h : wp (model prog w) g (setD f v d) (Sem.finPost (model prog w) g R) E p s) :
    ∃ o es ep i, s.heap.get? d = some o ∧ o.cls = .type "dict" ∧ o.data = .dict es ep ∧ f es = some i ∧
      R (.ok (.ret .none)) { s with heap := s.heap.update d (Obj.mapDict fun es => es.modify i fun e => { e with val := v }), toks := s.toks + 1 } := by
  unfold setD at h
  obtain ⟨o, ho, h⟩ := h
  dsimp only [Sem.bind] at h
  split at h
  · rename_i hcl
    split at h
    · rename_i es ep hd
      split at h
      · rename_i i hi
        exact ⟨o, es, ep, i, ho, eq_of_beq hcl, hd, hi, h.2⟩
      · exact h.elim
    · exact h.elim
  · exact h.elim
theorem ok_setitem {prog : Program} {w : World} {key v : Value} {hv : Int} {f : Array DictEntry → Option Nat} (F : Fnd prog w key hv f) {d : Addr} {E : Value → Pos → Shared → Prop} (hc : g.code = .builtin "dict.__setitem__" ⟨[.ref d, key, v], []⟩)
    (h : wp (model prog w) g (setD f v d) (Sem.finPost (model prog w) g R) E p s) : wpCode (model prog w) g R p s := by
  obtain ⟨o, es, ep, i, ho, hcl, hd, hi, h⟩ := setD_inv h
  refine code_of hc (codeAny_builtin entry_dict_setitem ?_)
  show wpAny _ _ (Builtin.Dict.notOrdered "__setitem__" ⟨[.ref d, key, v], []⟩ >>= _) _ _ s
  refine wpAny_bind (wpAny_notOrdered_dict (show s.TypeIs (.ref d) "dict" from ⟨o, ho, hcl⟩) ?_)
  show wpAny _ _ (dictSet d key v >>= _) _ _ s
  refine wpAny_bind ?_
  unfold dictSet
  try with_reducible refine wpAny_holding ?_
  refine wpAny_bind (F.hash ?_)
  unfold dictSetHashed
  try with_reducible refine wpAny_holding ?_
  refine wpAny_bind (F.find (s := { s with toks := s.toks + 1 }) ho hd hi ?_)
  exact wpAny_bind (wpAny_rule (wpAny_bind (wpAny_updateDict (s := { s with toks := s.toks + 1 }) ho hd (wpAny_point (wpAny_pure h)))))
theorem entry_pop : entryFor table "dict.pop" = some Builtin.«dict.pop» := entryFor_of_tree (by kernel_rfl)
theorem popD_inv {prog : Program} {w : World} {f : Array DictEntry → Option Nat} {d : Addr} {E : Value → Pos → Shared → Prop} (h : wp (model prog w) g (popD f d) (Sem.finPost (model prog w) g R) E p s) :
    ∃ o es ep i e, s.heap.get? d = some o ∧ o.cls = .type "dict" ∧ o.data = .dict es ep ∧ es.size ≤ 1000 ∧ f es = some i ∧ es[i]? = some e ∧
      R (.ok (.ret e.val)) { s with heap := s.heap.update d (Obj.mapDictKeys fun es => es.eraseIdxIfInBounds i), toks := s.toks + 1 } := by
  unfold popD at h
  obtain ⟨o, ho, h⟩ := h
  dsimp only [Sem.bind] at h
  split at h
  · rename_i hcl
    split at h
    · rename_i es ep hd
      split at h
      · rename_i hz
        split at h
        · rename_i i hi
          split at h
          · rename_i e he
            exact ⟨o, es, ep, i, e, ho, eq_of_beq hcl, hd, Nat.le_of_ble_eq_true hz, hi, he, h.2⟩
          · exact h.elim
        · exact h.elim
      · exact h.elim
    · exact h.elim
  · exact h.elim
theorem ok_pop {prog : Program} {w : World} {key : Value} {hv : Int} {f : Array DictEntry → Option Nat} (F : Fnd prog w key hv f) {d : Addr} {E : Value → Pos → Shared → Prop} (hc : g.code = .builtin "dict.pop" ⟨[.ref d, key], []⟩)
    (h : wp (model prog w) g (popD f d) (Sem.finPost (model prog w) g R) E p s) : wpCode (model prog w) g R p s := by
  obtain ⟨o, es, ep, i, e, ho, hcl, hd, hz, hi, he, h⟩ := popD_inv h
  refine code_of hc (codeAny_builtin entry_pop ?_)
  unfold Builtin.«dict.pop»
  refine wpAny_bind ?_
  unfold Builtin.Dict.keyAndDefault
  refine wpAny_bind (wpAny_notOrdered_dict (show s.TypeIs (.ref d) "dict" from ⟨o, ho, hcl⟩) ?_)
  show wpAny _ _ (pure (d, key, none)) _ _ s
  refine wpAny_pure ?_
  simp only [F.part, if_true]
  refine wpAny_bind (wpAny_pure ?_)
  simp only [Bool.false_eq_true, if_false]
  refine wpAny_bind ?_
  unfold Builtin.Dict.takeOut
  try with_reducible refine wpAny_holding ?_
  refine wpAny_bind (F.hash (wpAny_bind (F.find (s := { s with toks := s.toks + 1 }) ho hd hi ?_)))
  refine wpAny_bind (wpAny_dictEntries (s := { s with toks := s.toks + 1 }) ho hd ?_)
  rw [he]
  have hes : es.size ≤ sizeLine := Nat.le_trans hz (by decide)
  refine wpAny_bind (wpAny_updateDictKeys (hz := hes) (hf := by simp [Array.eraseIdxIfInBounds]; split <;> simp <;> omega) (s := { s with toks := s.toks + 1 }) ho hd (wpAny_pure ?_))
  simp only [Option.isNone_some, Bool.false_eq_true, if_false]
  exact wpAny_bind (wpAny_letGo (wpAny_pure h))
theorem tupC_inv {prog : Program} {w : World} {x : Str} {t : Addr} {E : Value → Pos → Shared → Prop} (h : wp (model prog w) g (tupC x t) (Sem.finPost (model prog w) g R) E p s) :
    ∃ o xs n, s.heap.get? t = some o ∧ o.cls = .type "tuple" ∧ o.data = .seq xs n ∧ xs.toList.all isExactStrKey = true ∧ R (.ok (.ret (.bool (xs.toList.any fun v => v.isStr x)))) s := by
  unfold tupC at h
  obtain ⟨o, ho, h⟩ := h
  dsimp only [Sem.bind] at h
  split at h
  · rename_i hcl
    split at h
    · rename_i xs n hd
      split at h
      · rename_i ha
        exact ⟨o, xs, n, ho, eq_of_beq hcl, hd, ha, h⟩
      · exact h.elim
    · exact h.elim
  · exact h.elim
theorem strs_are : ∀ (l : List Value), l.all isExactStrKey = true → ∃ ys, PyProof.Rows.StrsAre l ys ∧ ∀ x, (ys.any (· == x)) = l.any fun v => v.isStr x
  | [], _ => ⟨[], .nil, fun _ => rfl⟩
  | v :: l, h => by
    rw [List.all_cons, Bool.and_eq_true] at h
    obtain ⟨ys, h1, h2⟩ := strs_are l h.2
    cases v with
    | str y t => exact ⟨y :: ys, .cons y t h1, fun x => by simp [h2, Value.isStr]⟩
    | _ => exact absurd h.1 (by simp [isExactStrKey])
theorem entry_tupc : entryFor table "tuple.__contains__" = some Builtin.«tuple.__contains__» := entryFor_of_tree (by kernel_rfl)
theorem ok_tupc {prog : Program} {w : World} {x : Str} {u : Tok} {t : Addr} {E : Value → Pos → Shared → Prop} (hc : g.code = .builtin "tuple.__contains__" ⟨[.ref t, .str x u], []⟩)
    (h : wp (model prog w) g (tupC x t) (Sem.finPost (model prog w) g R) E p s) : wpCode (model prog w) g R p s := by
  obtain ⟨o, xs, n, ho, hcl, hd, ha, h⟩ := tupC_inv h
  obtain ⟨ys, h1, h2⟩ := strs_are _ ha
  refine code_of hc (codeAny_builtin entry_tupc ?_)
  exact PyProof.Rows.tuple_contains_strs (u := u) (P := Bq (model prog w) (Ag g) R) ⟨o, ho, hcl, n, hd⟩ h1 (by rw [h2]; exact h)
theorem iaddD_inv {prog : Program} {w : World} {l x : Addr} {Q : PySem.Fin → Pos → Shared → Prop} {E : Value → Pos → Shared → Prop} (h : wp (model prog w) g (iaddD l x) Q E p s) :
    ∃ o o', s.heap.get? l = some o ∧ s.heap.get? x = some o' ∧ o.cls = .type "list" ∧ (o'.cls = .type "dict" ∨ o'.cls = .type "dict_items") ∧
      wp (model prog w) g (do
        let _ ← typeOf (.ref x)
        let iter ← pyIter (.ref x)
        let _ ← holding [iter] (Builtin.List.listLengthHint (.ref x))
        rule "list.extend.makes-room"
        Builtin.List.listTouch (.ref l)
        again (.builtin "list.extend.loop" ⟨[.ref l, iter, .ref l], []⟩)) Q E p s := by
  unfold iaddD at h
  obtain ⟨o, ho, h⟩ := h
  dsimp only [Sem.bind] at h
  obtain ⟨o', ho', h⟩ := h
  dsimp only [Sem.bind] at h
  split at h
  · rename_i hcl
    split at h
    · rename_i hcl'
      exact ⟨o, o', ho, ho', eq_of_beq hcl, (Bool.or_eq_true _ _ ▸ hcl').imp eq_of_beq eq_of_beq, h⟩
    · exact h.elim
  · exact h.elim
theorem wp_typeOf {M : Model} {x : Addr} {o : Obj} (ho : s.heap.get? x = some o) {Q : Value → Pos → Shared → Prop} {E : Value → Pos → Shared → Prop} : wp M g (typeOf (.ref x)) Q E p s ↔ Q o.cls p s := by
  constructor
  · intro h
    obtain ⟨o', ho', h⟩ := h
    rw [ho] at ho'
    cases ho'
    exact h
  · intro h
    exact ⟨o, ho, h⟩
theorem den_builtin {prog : Program} {w : World} {id : String} {b : Builtin} {args : Args} (e : entryFor table id = some b) : (model prog w).den (.builtin id args) = b args := by
  show (match entryFor table id with | some b => b args | none => unsupported ((withoutEnding? id "#data").getD id)) = b args
  rw [e]
theorem entry_iadd : entryFor table "list.__iadd__" = some Builtin.«list.__iadd__» := entryFor_of_tree (by kernel_rfl)
set_option maxHeartbeats 2000000 in
theorem ok_iadd {prog : Program} {w : World} {l x : Addr} {E : Value → Pos → Shared → Prop} (hE : E = fun e _ s => R (.error e) s) (hc : g.code = .builtin "list.__iadd__" ⟨[.ref l, .ref x], []⟩)
    (h : wp (model prog w) g (iaddD l x) (Sem.finPost (model prog w) g R) E p s) : wpCode (model prog w) g R p s := by
  obtain ⟨o, o', ho, ho', hcl, hcl', h⟩ := iaddD_inv h
  subst hE
  rw [wpCode_iff_wp, hc]
  rw [den_builtin entry_iadd]
  show wp (model prog w) g (Builtin.List.listExtendWith (.ref l) (.ref x) (.ref l)) _ _ p s
  unfold Builtin.List.listExtendWith
  have hne : l ≠ x := by
    rintro rfl
    rw [ho] at ho'
    cases ho'
    rw [hcl] at hcl'
    rcases hcl' with h | h <;> injection h with h <;> exact absurd h (by decide)
  rw [Sem.wp_bind', wp_typeOf ho'] at h ⊢
  have hsr : Builtin.List.listSameRef (.ref l) (.ref x) = false := by
    show (l == x) = false
    simpa using hne
  have e1 : (Builtin.List.listSameRef (.ref l) (.ref x) || o'.cls == Value.type "list" || o'.cls == Value.type "tuple") = false := by
    rw [hsr]
    rcases hcl' with h | h <;> rw [h] <;> rfl
  rw [if_neg (by rw [e1]; exact Bool.false_ne_true)]
  simp only [Sem.wp_bind'] at h ⊢
  refine Sem.wp_mono _ g _ (fun iter p1 s1 h1 => ?_) (fun _ _ _ x => x) p s h
  refine Sem.wp_mono _ g _ (fun room p2 s2 h2 => ?_) (fun _ _ _ x => x) p1 s1 h1
  have e2 : ∀ L : List String, L = ["set", "frozenset", "dict", "dict_keys", "dict_values", "dict_items"] → (room || L.any fun n => o'.cls == Value.type n) = true := by
    rintro L rfl
    rcases hcl' with h | h <;> rw [h] <;> cases room <;> rfl
  split
  · simp only [Sem.wp_bind'] at h2 ⊢
    exact h2
  · rename_i hn
    exact absurd (e2 _ rfl) hn
end
end Mine
end
section
open PySem PySem.W PySem.W.X
open Sem (wp)
set_option maxRecDepth 100000
namespace Mine
section
variable {M : Model} {g : PySem.Ctx} {p : Pos} {R : Result → Shared → Prop} {s : Shared}
theorem readL_inv {f : Value → Sem PyData} {E : Value → Pos → Shared → Prop} {s : Shared} {p : Pos} (hf : ∀ v (Q : PyData → Pos → Shared → Prop), wp M g (f v) Q E p s → ∃ d as, Reads s.heap v d as ∧ Q d p s) :
    ∀ (vs : List Value) (Q : List PyData → Pos → Shared → Prop), wp M g (readL f vs) Q E p s → ∃ ds as, ReadsAll s.heap vs ds as ∧ Q ds p s
  | [], Q, h => ⟨[], [], .nil, h⟩
  | v :: vs, Q, h => by
    unfold readL at h
    rw [Sem.wp_bind'] at h
    obtain ⟨d, as, r, h⟩ := hf v _ h
    rw [Sem.wp_bind'] at h
    obtain ⟨ds, bs, rs, h⟩ := readL_inv hf vs _ h
    exact ⟨d :: ds, as ++ bs, .cons r rs, h⟩
theorem readV_inv {E : Value → Pos → Shared → Prop} : ∀ (n : Nat) (v : Value) (Q : PyData → Pos → Shared → Prop), wp M g (readV n v) Q E p s → ∃ d as, Reads s.heap v d as ∧ Q d p s
  | 0, v, Q, h => by unfold readV at h; exact h.elim
  | n + 1, v, Q, h => by
    cases v with
    | none => exact ⟨_, _, .none, h⟩
    | bool b => exact ⟨_, _, .bool b, h⟩
    | int i t => exact ⟨_, _, .int i t, h⟩
    | str x t => exact ⟨_, _, .str x t, h⟩
    | ref a =>
      unfold readV at h
      obtain ⟨o, ho, h⟩ := h
      dsimp only [Sem.bind] at h
      split at h
      · rename_i vs ep hd
        split at h
        · rename_i hc
          rw [Sem.wp_bind'] at h
          obtain ⟨ds, as, r, h⟩ := readL_inv (fun v Q h => readV_inv n v Q h) _ _ h
          exact ⟨_, _, .tuple ho (eq_of_beq hc) hd r, h⟩
        · split at h
          · rename_i hc
            rw [Sem.wp_bind'] at h
            obtain ⟨ds, as, r, h⟩ := readL_inv (fun v Q h => readV_inv n v Q h) _ _ h
            exact ⟨_, _, .list ho (eq_of_beq hc) hd r, h⟩
          · exact h.elim
      · exact h.elim
    | _ => unfold readV at h; exact h.elim
theorem neD_inv {tup : Bool} {a b : Addr} {E : Value → Pos → Shared → Prop} (h : wp M g (neD tup a b) (Sem.finPost M g R) E p s) :
    ∃ x y as bs, Reads s.heap (.ref a) x as ∧ Reads s.heap (.ref b) y bs ∧ x.canLay0 = true ∧ y.canLay0 = true ∧ x.depth ≤ 64 ∧
      ((∃ xs ys, tup = true ∧ x = .tuple xs ∧ y = .tuple ys ∧ R (.ok (.ret (.bool (!PyData.eqvAll xs ys)))) s) ∨ (∃ xs ys, tup = false ∧ x = .list xs ∧ y = .list ys ∧ R (.ok (.ret (.bool (!PyData.eqvAll xs ys)))) s)) := by
  unfold neD at h
  rw [Sem.wp_bind'] at h
  obtain ⟨x, as, rx, h⟩ := readV_inv 9 _ _ h
  rw [Sem.wp_bind'] at h
  obtain ⟨y, bs, ry, h⟩ := readV_inv 9 _ _ h
  split at h
  · rename_i hk
    obtain ⟨hk, h3⟩ := Bool.and_eq_true_iff.mp hk
    obtain ⟨h1, h2⟩ := Bool.and_eq_true_iff.mp hk
    have h3 := Nat.le_of_ble_eq_true h3
    split at h
    · split at h
      · split at h
        · exact ⟨_, _, as, bs, rx, ry, h1, h2, h3, .inl ⟨_, _, rfl, rfl, rfl, h⟩⟩
        · exact h.elim
      · exact h.elim
    · split at h
      · split at h
        · exact ⟨_, _, as, bs, rx, ry, h1, h2, h3, .inr ⟨_, _, rfl, rfl, rfl, h⟩⟩
        · exact h.elim
      · exact h.elim
    · exact h.elim
  · exact h.elim
end
end Mine
end
section
open PySem PySem.W PySem.W.X
open PySem.SeqAt PySem.MeetsSeq
open Sem (wp)
set_option maxRecDepth 100000
namespace Mine
section
variable {prog : Program} {w : World} {g : PySem.Ctx} {p : Pos} {R : Result → Shared → Prop} {s : Shared}
theorem entry_tne : entryFor table "tuple.__ne__" = some Builtin.«tuple.__ne__» := entryFor_of_tree (by kernel_rfl)
theorem entry_lne : entryFor table "list.__ne__" = some Builtin.«list.__ne__» := entryFor_of_tree (by kernel_rfl)
theorem plain_tne : plainId "tuple.__ne__" = true := by kernel_rfl
theorem plain_lne : plainId "list.__ne__" = true := by kernel_rfl
theorem ok_tne {a b : Addr} {E : Value → Pos → Shared → Prop} (hc : g.code = .builtin "tuple.__ne__" ⟨[.ref a, .ref b], []⟩) (hu : unitsOf g.below + 100 < cLine)
    (h : wp (model prog w) g (neD true a b) (Sem.finPost (model prog w) g R) E p s) : wpCode (model prog w) g R p s := by
  obtain ⟨x, y, as, bs, rx, ry, h1, h2, h3, h | h⟩ := neD_inv h
  · obtain ⟨xs, ys, -, rfl, rfl, h⟩ := h
    refine code_of hc (codeAny_builtin entry_tne ?_)
    cases rx with
    | @tuple _ o vs n _ _ k1 k2 k3 k4 =>
      cases ry with
      | @tuple _ o' vs' n' _ _ j1 j2 j3 j4 =>
        obtain ⟨c, dd, dt, sl⟩ := o
        obtain ⟨c', dd', dt', sl'⟩ := o'
        simp only at k2 k3 j2 j3
        subst k2 k3 j2 j3
        rw [Around.under_plainId plain_tne _]
        have n1 : vs.size = xs.length := by simpa using ReadsAll.length _ _ _ k4
        have n2 : vs'.size = ys.length := by simpa using ReadsAll.length _ _ _ j4
        refine tuple_neAt a b vs vs' n n' dd dd' sl sl' (pairEq xs ys) prog w (Ag g) R s ⟨k1, j1, fun j j1 j2 => ?_, ?_⟩
        · have hd : PyData.depthAll xs ≤ 64 := Nat.le_trans (Nat.le_succ _) h3
          have := eqAt_readsAll xs ys (Ag g).in1 s vs.toList vs'.toList _ _ k4 j4 h1 h2 (by
            have : min (PyData.depthAll xs) (PyData.depthAll ys) ≤ 64 := Nat.le_trans (Nat.min_le_left _ _) hd
            show unitsOf g.below + 1 + _ < cLine
            omega) j (by simpa using j1) (by simpa using j2)
          simpa using this
        · rw [n1, n2, eqvAll_eq]; exact h
  · obtain ⟨xs, ys, hf, -⟩ := h; cases hf
theorem ok_lne {a b : Addr} {E : Value → Pos → Shared → Prop} (hc : g.code = .builtin "list.__ne__" ⟨[.ref a, .ref b], []⟩) (hu : unitsOf g.below + 100 < cLine)
    (h : wp (model prog w) g (neD false a b) (Sem.finPost (model prog w) g R) E p s) : wpCode (model prog w) g R p s := by
  obtain ⟨x, y, as, bs, rx, ry, h1, h2, h3, h | h⟩ := neD_inv h
  · obtain ⟨xs, ys, hf, -⟩ := h; cases hf
  · obtain ⟨xs, ys, -, rfl, rfl, h⟩ := h
    refine code_of hc (codeAny_builtin entry_lne ?_)
    cases rx with
    | @list _ o vs n _ _ k1 k2 k3 k4 =>
      cases ry with
      | @list _ o' vs' n' _ _ j1 j2 j3 j4 =>
        obtain ⟨c, dd, dt, sl⟩ := o
        obtain ⟨c', dd', dt', sl'⟩ := o'
        simp only at k2 k3 j2 j3
        subst k2 k3 j2 j3
        rw [Around.under_plainId plain_lne _]
        have n1 : vs.size = xs.length := by simpa using ReadsAll.length _ _ _ k4
        have n2 : vs'.size = ys.length := by simpa using ReadsAll.length _ _ _ j4
        by_cases hsz : vs.size = vs'.size
        · refine list_neAt a b vs vs' n n' dd dd' sl sl' hsz (pairEq xs ys) prog w (Ag g) R s ⟨k1, j1, fun j j1 j2 => ?_, ?_⟩
          · have hd : PyData.depthAll xs ≤ 64 := Nat.le_trans (Nat.le_succ _) h3
            have := eqAt_readsAll xs ys (Ag g).in1 s vs.toList vs'.toList _ _ k4 j4 h1 h2 (by
              have : min (PyData.depthAll xs) (PyData.depthAll ys) ≤ 64 := Nat.le_trans (Nat.min_le_left _ _) hd
              show unitsOf g.below + 1 + _ < cLine
              omega) j (by simpa using j1) (by simpa using j2)
            simpa using this
          · rw [n1, eqvAll_same_length (by omega)]; exact h
        · refine list_ne_lengthsAt a b vs vs' n n' dd dd' sl sl' (by simpa using hsz) prog w (Ag g) R s ⟨k1, j1, ?_⟩
          rw [eqvAll_other_length (by omega : xs.length ≠ ys.length)] at h
          exact h
end
end Mine
end
section
open PySem PySem.W PySem.W.X
open PySem.SeqAt PySem.MeetsSeq
open Sem (wp)
set_option maxRecDepth 100000
namespace Mine
section
variable {prog : Program} {w : World} {g : PySem.Ctx} {p : Pos} {R : Result → Shared → Prop} {s : Shared}
theorem entry_deq : entryFor table "dict.__eq__" = some Builtin.«dict.__eq__» := entryFor_of_tree (by kernel_rfl)
theorem eqD_inv {a b : Addr} {E : Value → Pos → Shared → Prop} (h : wp (model prog w) g (eqD a b) (Sem.finPost (model prog w) g R) E p s) :
    ∃ o o' es ep fs fp, s.heap.get? a = some o ∧ s.heap.get? b = some o' ∧ o.cls = .type "dict" ∧ o'.cls = .type "dict" ∧ (a == sysModules) = false ∧ (b == sysModules) = false ∧ o.data = .dict es ep ∧ o'.data = .dict fs fp ∧ es.size = fs.size ∧
      (fs.all fun e => isExactStrKey e.key) = true ∧ es.toList.all (inD fs) = true ∧ R (.ok (.ret (.bool true))) s := by
  unfold eqD at h
  obtain ⟨o, ho, h⟩ := h
  dsimp only [Sem.bind] at h
  obtain ⟨o', ho', h⟩ := h
  dsimp only [Sem.bind] at h
  split at h
  · rename_i hk
    obtain ⟨hk, h4⟩ := Bool.and_eq_true_iff.mp hk
    obtain ⟨hk, h3⟩ := Bool.and_eq_true_iff.mp hk
    obtain ⟨h1, h2⟩ := Bool.and_eq_true_iff.mp hk
    split at h
    · rename_i hd
      split at h
      · rename_i hd'
        split at h
        · rename_i hq
          obtain ⟨hq, q3⟩ := Bool.and_eq_true_iff.mp hq
          obtain ⟨q1, q2⟩ := Bool.and_eq_true_iff.mp hq
          exact ⟨o, o', _, _, _, _, ho, ho', eq_of_beq h1, eq_of_beq h2, by simpa using h3, by simpa using h4, hd, hd', Nat.eq_of_beq_eq_true q1, q2, q3, h⟩
        · exact h.elim
      · exact h.elim
    · exact h.elim
  · exact h.elim
theorem inD_inv {fs : Array DictEntry} {e : DictEntry} (h : inD fs e = true) : ∃ x t j f y u y' u', e.key = .str x t ∧ (fs.findIdx? fun e => e.key.isStr x) = some j ∧ fs[j]? = some f ∧ e.val = .str y u ∧ f.val = .str y' u' ∧ y = y' := by
  unfold inD at h
  split at h
  · rename_i x t hk
    split at h
    · rename_i j hj
      split at h
      · rename_i f hf
        unfold strV at h
        split at h
        · rename_i y u hv
          cases hfv : f.val with
          | str y' u' => rw [hfv] at h; exact ⟨x, t, j, f, y, u, y', u', hk, hj, hf, hv, hfv, (show y' = y by simpa [Value.isStr] using h).symm⟩
          | _ => rw [hfv] at h; simp [Value.isStr] at h
        · cases h
      · cases h
    · cases h
  · cases h
theorem samePairs_true {A : Around} {E : Value → Shared → Prop} {Q : Bool → Shared → Prop} {id : String} {a b : Addr} {o o' : Obj} {es fs : Array DictEntry} {ep fp : Nat} (ho : s.heap.get? a = some o) (ho' : s.heap.get? b = some o')
    (ha : (a == sysModules) = false) (hb : (b == sysModules) = false) (hd : o.data = .dict es ep) (hd' : o'.data = .dict fs fp) (hsz : es.size = fs.size) (hall : (fs.all fun e => isExactStrKey e.key) = true) (hin : es.toList.all (inD fs) = true)
    (h : Q true s) : wpAny (model prog w) A (Builtin.Dict.samePairs id a b) Q E s := by
  unfold Builtin.Dict.samePairs Builtin.Dict.showsAll
  rw [if_neg (by rw [ha]; exact Bool.false_ne_true), if_neg (by rw [hb]; exact Bool.false_ne_true)]
  refine wpAny_bind (wpAny_pure (wpAny_bind (wpAny_pure ?_)))
  refine wpAny_bind (wpAny_dictEntries ho hd (wpAny_bind (wpAny_dictEntries ho' hd' ?_)))
  rw [if_neg (by simp [hsz])]
  refine wpAny_bind (wpAny_dictEpoch ho hd ?_)
  rw [Std.Legacy.Range.forIn_eq_forIn_range']
  refine wpAny_bind (wpAny_forIn_list _ (fun rest b s' => b.1 = none ∧ s' = s ∧ ∀ i ∈ rest, i < es.size) _ ?_ ?_ _ _ ⟨rfl, rfl, fun i hi => ?_⟩)
  · rintro i rest b' s' ⟨hb', rfl, hlt⟩
    have hi := hlt i List.mem_cons_self
    have he : inD fs es[i] = true := List.all_eq_true.mp hin _ (by simp)
    obtain ⟨x, t, j, f, y, u, y', u', k1, k2, k3, k4, k5, rfl⟩ := inD_inv he
    refine wpAny_bind (wpAny_dictEntries ho hd ?_)
    rw [Array.getElem?_eq_getElem hi]
    dsimp only
    refine wpAny_bind (wpAny_holding ?_)
    rw [k1]
    refine wpAny_bind (PyProof.Rows.KTD.kt_dictFind_strs ho' hd' hall ?_)
    rw [k2]
    dsimp only
    refine wpAny_bind (wpAny_dictEntries ho' hd' ?_)
    rw [k3]
    dsimp only
    refine wpAny_holding ?_
    rw [k4, k5]
    refine EqAt.str_str y u y u' prog w E _ ?_
    rw [beq_self_eq_true]
    rw [if_neg (by decide)]
    refine wpAny_bind (wpAny_dictEpoch ho hd ?_)
    rw [if_neg (by simp)]
    exact wpAny_pure ⟨rfl, rfl, fun i hi => hlt i (List.mem_cons_of_mem _ hi)⟩
  · rintro ⟨b1, b2⟩ s' ⟨hb', rfl, -⟩
    simp only at hb'
    subst hb'
    exact wpAny_pure h
  · have := List.mem_range'.mp hi
    simp [Std.Legacy.Range.size] at this
    omega
theorem sub_dd : isSubtype (.type "dict") (.type "dict") = pure true := by kernel_rfl
theorem ok_deq {a b : Addr} {E : Value → Pos → Shared → Prop} (hc : g.code = .builtin "dict.__eq__" ⟨[.ref a, .ref b], []⟩)
    (h : wp (model prog w) g (eqD a b) (Sem.finPost (model prog w) g R) E p s) : wpCode (model prog w) g R p s := by
  obtain ⟨o, o', es, ep, fs, fp, ho, ho', hc1, hc2, ha, hb, hd, hd', hsz, hall, hin, h⟩ := eqD_inv h
  refine code_of hc (codeAny_builtin entry_deq ?_)
  show wpAny _ _ (Builtin.Dict.dictSlotArgs "__eq__" ⟨[.ref a, .ref b], []⟩ >>= _) _ _ s
  refine wpAny_bind ?_
  unfold Builtin.Dict.dictSlotArgs
  refine wpAny_bind (wpAny_notOrdered_dict (show s.TypeIs (.ref a) "dict" from ⟨o, ho, hc1⟩) ?_)
  show wpAny _ _ (pure (Value.ref a, Value.ref b)) _ _ s
  refine wpAny_pure ?_
  refine wpAny_bind (wpAny_isInstance (show s.TypeIs (.ref b) "dict" from ⟨o', ho', hc2⟩) sub_dd ?_)
  rw [if_neg (by decide)]
  refine wpAny_bind (wpAny_pure (wpAny_bind (wpAny_pure (wpAny_bind (samePairs_true ho ho' ha hb hd hd' hsz hall hin ?_)))))
  exact wpAny_pure h
end
end Mine
end
section
open PySem PySem.W PySem.W.X
open Sem (wp)
set_option maxRecDepth 100000
namespace Mine
theorem ob1 {c c' : Code} (h : Ob [(cC c, cC c')]) : c = c' := cC_inj (h (cC c, cC c') List.mem_cons_self)
theorem pyIter_self {prog : Program} {w : World} {A : Around} {E : Value → Shared → Prop} {s : Shared} {it : Addr} {o : Obj} {Q : Value → Shared → Prop} (ho : s.heap.get? it = some o)
    (hc : (o.cls == .type "list_iterator" || o.cls == .type "str_ascii_iterator" || o.cls == .type "dict_keyiterator") = true) (h : Q (.ref it) s) : wpAny (model prog w) A (pyIter (.ref it)) Q E s := by
  have ty : ∀ T, (o.cls == .type T) = true → s.TypeIs (.ref it) T := fun T e => ⟨o, ho, eq_of_beq e⟩
  rcases (Bool.or_eq_true _ _).mp hc with hc | hc
  · rcases (Bool.or_eq_true _ _).mp hc with hc | hc
    · refine wpAny_pyIter_slot (ty _ hc) slot_listiter_iter (wpAny_call_entry slot_listiter_iter (ty _ hc) entry_listiter_iter ?_ (args_listiter_iter _))
      show wpAny _ _ (ret (.ref it)) _ _ s
      exact wpAny_pure ⟨_, rfl, "list_iterator", _, ty _ hc, slot_listiter_next.lookup, h⟩
    · refine wpAny_pyIter_slot (ty _ hc) F.slot_str_ascii_iterator_iter (wpAny_call_entry F.slot_str_ascii_iterator_iter (ty _ hc) F.entry_str_ascii_iterator_iter ?_ (F.args_str_ascii_iterator_iter_1 _))
      show wpAny _ _ (ret (.ref it)) _ _ s
      exact wpAny_pure ⟨_, rfl, "str_ascii_iterator", _, ty _ hc, F.slot_str_ascii_iterator_next.lookup, h⟩
  · refine wpAny_pyIter_slot (ty _ hc) F.slot_dict_keyiterator_iter (wpAny_call_entry F.slot_dict_keyiterator_iter (ty _ hc) F.entry_dict_keyiterator_iter ?_ (F.args_dict_keyiterator_iter_1 _))
    show wpAny _ _ (ret (.ref it)) _ _ s
    exact wpAny_pure ⟨_, rfl, "dict_keyiterator", _, ty _ hc, F.slot_dict_keyiterator_next.lookup, h⟩
theorem comp_pos {prog : Program} {w : World} {g : PySem.Ctx} {p p' : Pos} {R : Result → Shared → Prop} {s : Shared} {elt target iter ifs rest scope pos it acc env}
    (hc : g.code = .compLoop (.ListComp elt (⟨target, iter, ifs, 0⟩ :: rest) scope pos) 0 it acc env) (h : wpCode (model prog w) g R p s) : wpCode (model prog w) g R p' s := by
  rw [wpCode_iff_wp, hc] at h ⊢
  exact h
theorem ok_comp {prog : Program} {w : World} {g : PySem.Ctx} {p : Pos} {R : Result → Shared → Prop} {s : Shared} {E : Value → Pos → Shared → Prop} {elt target iter ifs rest scope pos it acc env}
    (hc : g.code = .compStart (.ListComp elt (⟨target, iter, ifs, 0⟩ :: rest) scope pos) 0 (.ref it) acc env)
    (h : wp (model prog w) g (compD (.compLoop (.ListComp elt (⟨target, iter, ifs, 0⟩ :: rest) scope pos) 0 (.ref it) acc env) it) (Sem.finPost (model prog w) g R) E p s) : wpCode (model prog w) g R p s := by
  unfold compD at h
  obtain ⟨o, ho, h⟩ := h
  dsimp only [Sem.bind] at h
  split at h
  · rename_i hcl
    obtain ⟨hq, h⟩ := h
    have hp : ∀ p', wpCode (model prog w) (g.goto (.compLoop (.ListComp elt (⟨target, iter, ifs, 0⟩ :: rest) scope pos) 0 (.ref it) acc env)) R p' s := fun p' => comp_pos rfl h
    rw [wpCode_iff_wp, hc]
    show wp (model prog w) g ((compStart (.ListComp elt (⟨target, iter, ifs, 0⟩ :: rest) scope pos) 0 (.ref it) acc env).onRaise (fun x => do noteFrame x env; standAt theWindowsPlace)) _ _ p s
    rw [Sem.wp_onRaise]
    show wp (model prog w) g (ask >>= _) _ _ p s
    rw [Sem.wp_bind']
    show wp (model prog w) g (if _ then _ else _) _ _ p s
    split
    · exact ⟨hq, hp _⟩
    · show wp (model prog w) g (pyIter (.ref it) >>= _) _ _ _ s
      rw [Sem.wp_bind']
      refine Sem.wp_mono _ g _ (fun v p' s' hv => ?_) (fun _ _ _ x => x.elim) _ s (pyIter_self (E := fun _ _ => False) (Q := fun v s' => v = .ref it ∧ s' = s) ho hcl ⟨rfl, rfl⟩ g _ (below_g g).in)
      obtain ⟨rfl, rfl⟩ := hv
      exact ⟨hq, hp _⟩
  · exact h.elim
theorem rnOf_inv {o : Obj} {x st : Int} {r : Nat} (h : rnOf o = some (x, r, st)) : o = { cls := .type "range_iterator", dict := none, data := .fields #[rawInt x, rawInt (.ofNat (r + 1)), rawInt st], slots := #[] } := by
  unfold rnOf at h
  split at h
  · split at h
    · rename_i hn
      have := eq_of_beq hn
      subst this
      cases h
      rfl
    · cases h
  · cases h
theorem rnD_inv {prog : Program} {w : World} {g : PySem.Ctx} {p : Pos} {R : Result → Shared → Prop} {s : Shared} {E : Value → Pos → Shared → Prop} {it : Addr} (h : wp (model prog w) g (rnD it) (Sem.finPost (model prog w) g R) E p s) :
    ∃ x r st, s.heap.get? it = some { cls := .type "range_iterator", dict := none, data := .fields #[rawInt x, rawInt (.ofNat (r + 1)), rawInt st], slots := #[] } ∧
      R (.ok (.ret (.int x s.toks))) { s with heap := (s.heap.update it (Obj.mapFields fun vs => vs.setIfInBounds 0 (rawInt (x + st)))).update it (Obj.mapFields fun vs => vs.setIfInBounds 1 (rawInt (.ofNat r))), toks := s.toks + 1 } := by
  unfold rnD at h
  obtain ⟨o, ho, h⟩ := h
  dsimp only [Sem.bind] at h
  split at h
  · rename_i x r st hr
    have e := rnOf_inv hr
    subst e
    exact ⟨x, r, st, ho, h.2.2⟩
  · exact h.elim
theorem ok_rn {prog : Program} {w : World} {g : PySem.Ctx} {p : Pos} {R : Result → Shared → Prop} {s : Shared} {E : Value → Pos → Shared → Prop} {it : Addr} (hc : g.code = .builtin "range_iterator.__next__" ⟨[.ref it], []⟩)
    (h : wp (model prog w) g (rnD it) (Sem.finPost (model prog w) g R) E p s) : wpCode (model prog w) g R p s := by
  obtain ⟨x, r, st, ho, h⟩ := rnD_inv h
  refine code_of hc (codeAny_builtin F.entry_range_iterator_next ?_)
  have e : ((Int.ofNat (r + 1)) - 1 : Int) = Int.ofNat r := by simp
  have m := AutoRange.range_iterator___next___range_iterator_1 it x (.ofNat (r + 1)) st (by simp)
  refine m prog w (Ag g) R s ⟨ho, ?_⟩
  rw [e]
  exact h
set_option maxHeartbeats 1000000 in
theorem alt_ok (V : Vx) (hb : Heap) (D : List Addr) : AltOk V hb D alt := by
  intro op kt T s c ob t _ e hob g p R hc hu h
  unfold alt at e
  split at e
  all_goals (try (split at e))
  all_goals (first | cases e | skip)
  all_goals have hcc := hc.trans (ob1 hob)
  · exact ok_getitem (fndS _ _) hcc h
  · exact ok_contains (fndS _ _) hcc h
  · exact ok_setitem (fndS _ _) hcc h
  · exact ok_getitem (fndI _ _) hcc h
  · exact ok_contains (fndI _ _) hcc h
  · exact ok_tne hcc hu h
  · exact ok_lne hcc hu h
  · exact ok_deq hcc h
  · exact ok_iadd rfl hcc h
  · exact ok_pop (fndS _ _) hcc h
  · exact ok_pop (fndI _ _) hcc h
  · exact ok_tupc hcc h
  · exact ok_rn hcc h
  · exact ok_comp hcc h
end Mine
end
section
open PySem PySem.W PySem.W.X
open Sem (wp)
set_option maxRecDepth 100000
namespace Mine
noncomputable def D1 : Den := ⟨PySem.W.Fast.tw11892475500146522536 PySem.W.Fast.tw14364793385576792824, PySem.W.Fast.tw12563942051412417395, PySem.W.Fast.tw14044960220447912780, PySem.W.Fast.tw14206642085496868694, PySem.W.Fast.tw13401596951702201221, PySem.W.Fast.tw8468629109055619292, fun f a => PySem.W.Fast.tw11478286150595567475 f a [], PySem.W.Fast.tw12372662630863984472⟩
theorem D_eq : D0 = D1 := by
  unfold D0 D1
  rw [table_eq_tree, PySem.W.Fast.te11892475500146522536, PySem.W.Fast.te14364793385576792824, PySem.W.Fast.te12563942051412417395, PySem.W.Fast.te14044960220447912780, PySem.W.Fast.te14206642085496868694, PySem.W.Fast.te13401596951702201221, PySem.W.Fast.te8468629109055619292, PySem.W.Fast.te11478286150595567475, PySem.W.Fast.te12372662630863984472]
noncomputable abbrev Ent := Nat × Addr × Obj
noncomputable def mkT : List Ent → PT
  | [] => .nil
  | e :: l => match Nat.blt e.1 1000000 with
    | true => (mkT l).put 40 e.1 e.2
    | false => mkT l
theorem mkT_mem : ∀ {l : List Ent} {j : Nat} {x : Addr × Obj}, (mkT l).get j = some x → (j, x) ∈ l
  | [], j, x, h => by cases h
  | e :: l, j, x, h => by
    unfold mkT at h
    split at h
    · rename_i hb
      have hb : e.1 < 1000000 := Nat.le_of_ble_eq_true hb
      rw [pt_put (by omega)] at h
      by_cases q : j = e.1
      · rw [if_pos q] at h
        cases h
        subst q
        exact List.mem_cons_self
      · rw [if_neg q] at h
        exact List.mem_cons_of_mem _ (mkT_mem h)
    · exact List.mem_cons_of_mem _ (mkT_mem h)
theorem less_mk : ∀ {l : List Ent} {T : PT}, l.map (fun e => T.get e.1) = l.map (fun e => some e.2) → ∀ j x, (mkT l).get j = some x → T.get j = some x := by
  intro l T h j x hx
  have hm := mkT_mem hx
  have := List.map_inj_left.mp h (j, x) hm
  exact this
noncomputable def obL (x : Obl) : List (Sem Fin) := x.map Prod.fst
noncomputable def obR (x : Obl) : List (Sem Fin) := x.map Prod.snd
theorem ob_of {acc : Obl} (h : obL acc = obR acc) : Ob acc := fun x hx => List.map_inj_left.mp h x hx
noncomputable def finL (l : List Ent) : Out → Option (Result × KT × List (Sem Fin) × List (Option (Addr × Obj)))
  | .fin r kt T _ acc => some (r, kt, obL acc, l.map fun e => T.get e.1)
  | _ => none
noncomputable def finR (l : List Ent) (kt0 : KT) (r0 : Result) : Out → Option (Result × KT × List (Sem Fin) × List (Option (Addr × Obj)))
  | .fin _ _ _ _ acc => some (r0, kt0, obR acc, l.map fun e => some e.2)
  | _ => some (r0, kt0, [], [])
noncomputable def agnL (l : List Ent) : Out → Option (Code × Ctx × KT × List (Sem Fin) × List (Option (Addr × Obj)))
  | .agn c g _ kt T _ acc => some (c, g, kt, obL acc, l.map fun e => T.get e.1)
  | _ => none
noncomputable def agnR (l : List Ent) (c0 : Code) (g0 : Ctx) (kt0 : KT) : Out → Option (Code × Ctx × KT × List (Sem Fin) × List (Option (Addr × Obj)))
  | .agn _ _ _ _ _ _ acc => some (c0, g0, kt0, obR acc, l.map fun e => some e.2)
  | _ => some (c0, g0, kt0, [], [])
noncomputable def cutL (l : List Ent) : Out → Option (Code × Option Value × Ctx × KT × List (Option (Addr × Obj)))
  | .cut c hd _ _ g _ _ kt T _ _ => some (c, hd, g, kt, l.map fun e => T.get e.1)
  | _ => none
noncomputable abbrev Go := (Result → Sem Fin) → List (Value → Sem Fin) → Ctx → Pos → List KF → KT → PT → Nat → Obl → Out
noncomputable def res (f : Go) : Out → Out
  | .cut _ _ k L g p K kt T m acc => f k L g p K kt T m acc
  | _ => .stop 0 0
section
variable {V : Vx} {R₀ : Result → Shared → Prop} {hb : Heap} {D : List Addr} {al : AltT}
theorem fin_good {o : Out} {l : List Ent} {kt0 : KT} {r0 : Result} (h : finL l o = finR l kt0 r0 o) (H : ∀ s, Rep V hb D kt0 (mkT l) s → R₀ r0 s) : Good V R₀ hb D o := by
  cases o with
  | fin r kt T m acc =>
    injection h with h
    injection h with h1 h
    injection h with h2 h
    injection h with h3 h4
    subst h1 h2
    exact ⟨ob_of h3, fun s R => H s (R.less (fun _ _ e => e) (less_mk h4))⟩
  | _ => cases h
theorem agn_good {o : Out} {l : List Ent} {c0 : Code} {g0 : Ctx} {kt0 : KT} (h : agnL l o = agnR l c0 g0 kt0 o) (H : ∀ p s, Rep V hb D kt0 (mkT l) s → wpCode (model V.prog V.w) (g0.goto c0) R₀ p s) : Good V R₀ hb D o := by
  cases o with
  | agn c g p kt T m acc =>
    injection h with h
    injection h with h1 h
    injection h with h2 h
    injection h with h3 h
    injection h with h4 h5
    subst h1 h2 h3
    exact ⟨ob_of h4, fun s R => H p s (R.less (fun _ _ e => e) (less_mk h5))⟩
  | _ => cases h
theorem ev_sound1 (O : V.Ok) (hal : AltOk V hb D al) (n : Nat) : Snd V R₀ hb D (ev D1 (S0 V) (S1 V) V.TA al n) := by
  have h := ev_sound (R₀ := R₀) O hal n
  rw [D_eq] at h
  exact h
theorem cut_good {ι : Type} (x0 : ι) {o : Out} {l : List Ent} {c0 : Code} {hd0 : Option Value} {g0 : Ctx} {kt0 : KT} (hc : cutL l o = some (c0, hd0, g0, kt0, l.map fun e => some e.2)) (O : V.Ok) (hal : AltOk V hb D al) {n : Nat} {ce2 : List Nat}
    (ktF : ι → KT) (TF : ι → PT → Nat → PT) (mF : Nat → Nat) (rF : ι → Result)
    (hg : ∀ x ts as, Good V R₀ hb D (res (fun k L g p K _ T m acc => ev D1 (S0 V) (S1 V) V.TA al n (k (rF x)) L g p K (ktF x) (TF x T m) (mF m) ts as ce2 acc) o))
    (contract : ∀ T m p R s, (∀ j x, (mkT l).get j = some x → T.get j = some x) → Rep V hb D kt0 T s → (∀ x s', Rep V hb D (ktF x) (TF x T m) s' → R (rF x) s') → wpCode (model V.prog V.w) (g0.enter c0 hd0 p) R p s) : Good V R₀ hb D o := by
  cases o with
  | cut c hd k L g p K kt T m acc =>
    injection hc with h
    injection h with h1 h
    injection h with h2 h
    injection h with h3 h
    injection h with h4 h5
    subst h1 h2 h3 h4
    have hg : ∀ x ts as, Good V R₀ hb D (ev D1 (S0 V) (S1 V) V.TA al n (k (rF x)) L g p K (ktF x) (TF x T m) (mF m) ts as ce2 acc) := hg
    exact ⟨obl_of n _ _ _ _ _ _ _ _ _ _ _ _ (hg x0 id id), fun s R => contract T m p _ s (less_mk h5) R fun x s' R' => ev_sound1 O hal n _ _ _ _ _ _ _ _ _ _ (hg x) s' R'⟩
  | _ => cases hc
end
/-- some statements alone -/
noncomputable def stT (b : List Stmt) (env : Env) : Sem Fin := do
  let f ← D1.ex b env
  match f with
  | .next => ret .none
  | _ => unsupported "st"
section
variable {prog : Program} {w : World} {g : PySem.Ctx} {s : Shared}
theorem D1_ex : D1.ex = execs := by rw [← D_eq]; rfl
theorem D1_el : D1.el = eval := by rw [← D_eq]; rfl
theorem D1_den : D1.den = denote table := by rw [← D_eq]; rfl
theorem execs_nil {env : Env} : execs [] env = (pure .next : Sem Flow) := by unfold execs; rfl
theorem execs_cons {st : Stmt} {l : List Stmt} {env : Env} : execs (st :: l) env = (exec st env >>= fun f => match f with | .next => execs l env | f => pure f) := by
  conv => lhs; unfold execs
  rfl
theorem execs_app {Q : Flow → Pos → Shared → Prop} {E : Value → Pos → Shared → Prop} {env : Env} {b2 : List Stmt} : ∀ {b1 : List Stmt} {p : Pos} {s : Shared},
    wp (model prog w) g (execs b1 env) (fun f p' s' => match f with | .next => wp (model prog w) g (execs b2 env) Q E p' s' | f => Q f p' s') E p s → wp (model prog w) g (execs (b1 ++ b2) env) Q E p s
  | [], p, s, h => by
    rw [execs_nil] at h
    exact h
  | st :: b1, p, s, h => by
    show wp (model prog w) g (execs (st :: (b1 ++ b2)) env) Q E p s
    rw [execs_cons] at h ⊢
    simp only [Sem.wp_bind'] at h ⊢
    refine Sem.wp_mono _ g _ (fun f p1 s1 h => ?_) (fun _ _ _ x => x) p s h
    cases f with
    | next => exact execs_app h
    | _ => exact h
theorem st_sound {RA : Result → Shared → Prop} {Q : Flow → Pos → Shared → Prop} {E : Value → Pos → Shared → Prop} {env : Env} {b1 b2 : List Stmt} {p : Pos} (h : Means (model prog w) RA (stT b1 env) [] g p [] s)
    (he : ∀ e s', ¬ RA (.error e) s') (hn : ∀ p' s', RA (.ok (.ret .none)) s' → wp (model prog w) g (execs b2 env) Q E p' s') : wp (model prog w) g (execs (b1 ++ b2) env) Q E p s := by
  refine execs_app ?_
  unfold Means stT at h
  rw [D1_ex] at h
  simp only [Sem.wp_bind'] at h
  refine Sem.wp_mono _ g _ (fun f p1 s1 h => ?_) (fun e p1 s1 x => (he e s1 x).elim) p s h
  cases f with
  | next => exact hn p1 s1 h
  | _ => exact False.elim h
theorem markedEach_one {op : CmpOp} {e : PySem.Expr} {t : Sem Value} : markedEach [op] [e] [t] = [markedBehindIn op e t] := rfl
/-- a comparison as a test -/
noncomputable def cmpT (l c : PySem.Expr) (op : CmpOp) (p : Pos) (env : Env) : Sem Bool := do
  let a ← D1.el l env
  testChain p a [op] [markedBehindIn op c (D1.el c env)]
theorem isTrue_cmp {l c : PySem.Expr} {op : CmpOp} {p : Pos} {env : Env} {m : Sem Value} : PySem.isTrue (.Compare l [op] [c] p) env m = cmpT l c op p env := by
  unfold cmpT
  rw [D1_el]
  unfold PySem.isTrue
  have : evalEach [c] env = [eval c env] := by unfold evalEach; rw [show evalEach [] env = [] by unfold evalEach; rfl]
  rw [this]
  rfl
/-- a turn's first half: the item, the statements, the first test -/
noncomputable def forA (target it : PySem.Expr × Value) (b1 : List Stmt) (ip : Pos) (l c : PySem.Expr) (op : CmpOp) (p : Pos) (env : Env) : Sem Fin := do
  standAt target.1.pos
  let x ← (pyNext it.2).onRaise (fun _ => standAt { target.1.pos with line := 0 })
  match x with
  | none => unsupported "forA"
  | some v => do
    letOwnedTupleGo target.1 it.2 v
    assign target.1 env v
    let f ← D1.ex b1 env
    match f with
    | .next => do
      standAt ip
      let b ← cmpT l c op p env
      match b with
      | false => ret .none
      | true => unsupported "forA"
    | _ => unsupported "forA"
noncomputable def forB (cd : Code) (l c : PySem.Expr) (op : CmpOp) (p : Pos) (env : Env) : Sem Fin := do
  let b ← cmpT l c op p env
  match b with
  | false => again cd
  | true => unsupported "forB"
theorem for_sound {RA R : Result → Shared → Prop} {target : PySem.Expr} {it : Value} {b1 : List Stmt} {ret0 : List Stmt} {ip p1 p2 bp p : Pos} {l1 c1 l2 c2 : PySem.Expr} {o1 o2 : CmpOp} {env : Env}
    (hc : g.code = .forLoop target it (b1 ++ [.If (.BoolOp .Or [.Compare l1 [o1] [c1] p1, .Compare l2 [o2] [c2] p2] bp) ret0 [] ip]) [] env)
    (hA : Means (model prog w) RA (forA (target, it) (target, it) b1 ip l1 c1 o1 p1 env) [] g p [] s) (he : ∀ e s', ¬ RA (.error e) s') (hR : ∀ e s', ¬ R (.error e) s')
    (hB : ∀ p' s', RA (.ok (.ret .none)) s' → Means (model prog w) R (forB g.code l2 c2 o2 p2 env) [] g p' [] s') : wpCode (model prog w) g R p s := by
  rw [wpCode_iff_wp, hc]
  show wp (model prog w) g ((forTurn target it (b1 ++ [.If (.BoolOp .Or [.Compare l1 [o1] [c1] p1, .Compare l2 [o2] [c2] p2] bp) ret0 [] ip]) [] env).onRaise _) _ _ p s
  rw [Sem.wp_onRaise]
  unfold Means forA at hA
  unfold forTurn
  simp only [Sem.wp_bind'] at hA ⊢
  refine Sem.wp_mono _ g _ (fun _ p1' s1 hA => ?_) (fun e p1 s1 x => (he e s1 x).elim) p s hA
  refine Sem.wp_mono _ g _ (fun x p2' s2 hA => ?_) (fun e p1 s1 x => (he e s1 x).elim) _ _ hA
  cases x with
  | none => exact False.elim hA
  | some v =>
    simp only [Sem.wp_bind'] at hA ⊢
    refine Sem.wp_mono _ g _ (fun _ p3 s3 hA => ?_) (fun e p1 s1 x => (he e s1 x).elim) _ _ hA
    refine Sem.wp_mono _ g _ (fun _ p4 s4 hA => ?_) (fun e p1 s1 x => (he e s1 x).elim) _ _ hA
    rw [D1_ex] at hA
    refine execs_app ?_
    refine Sem.wp_mono _ g _ (fun f p5 s5 hA => ?_) (fun e p1 s1 x => (he e s1 x).elim) _ _ hA
    cases f with
    | next =>
      simp only [Sem.wp_bind'] at hA
      rw [execs_cons]
      simp only [Sem.wp_bind']
      unfold exec
      simp only [Sem.wp_bind']
      refine Sem.wp_mono _ g _ (fun _ p6 s6 hA => ?_) (fun e p1 s1 x => (he e s1 x).elim) _ _ hA
      unfold PySem.isTrue
      unfold allTrue
      simp only [Sem.wp_bind']
      rw [isTrue_cmp]
      refine Sem.wp_mono _ g _ (fun b p7 s7 hA => ?_) (fun e p1 s1 x => (he e s1 x).elim) _ _ hA
      cases b with
      | true => exact False.elim hA
      | false =>
        have hB := hB p7 s7 hA
        unfold Means forB at hB
        simp only [Sem.wp_bind'] at hB
        show wp (model prog w) g (allTrue .Or [.Compare l2 [o2] [c2] p2] env) _ _ p7 s7
        unfold allTrue
        simp only [Sem.wp_bind']
        rw [isTrue_cmp]
        refine Sem.wp_mono _ g _ (fun b p8 s8 hB => ?_) (fun e p1 s1 x => (hR e s1 x).elim) _ _ hB
        cases b with
        | true => exact False.elim hB
        | false =>
          show wp (model prog w) g (allTrue .Or [] env) _ _ p8 s8
          unfold allTrue
          rw [Sem.wp_pure', if_neg (by decide), execs_nil, Sem.wp_pure']
          show wp (model prog w) g (execs [] env) _ _ p8 s8
          rw [execs_nil, Sem.wp_pure']
          rw [hc] at hB
          exact hB
    | _ => exact False.elim hA
end
end Mine
end
section
open PySem PySem.W PySem.W.X
open Sem (wp)
set_option maxRecDepth 100000
namespace Mine
/-- builtins answered by known numbers -/
inductive XE where
  | lt (a b : Int) (r : Bool)
  | fmod (a b r : Int)
  | absP (a : Int)
  | absN (a r : Int)
  | get (j : Nat) (vs : List Value) (i : Int) (v : Value)
  | len (j : Nat) (vs : List Value)
noncomputable def XE.tree (T : PT) (c : Code) : XE → Option (Obl × Sem Fin)
  | .lt a b r => match c with
    | .builtin _ ⟨[.int _ ta, .int _ tb], _⟩ => some ([(cC c, cC (.builtin "int.__lt__" ⟨[.int a ta, .int b tb], []⟩))], ret (.bool r))
    | _ => none
  | .fmod a b r => match c with
    | .builtin _ ⟨[.int _ ta, .int _ tb], _⟩ => some ([(cC c, cC (.builtin "int.__mod__" ⟨[.int a ta, .int b tb], []⟩))], Sem.fresh fun u => ret (.int r u))
    | _ => none
  | .absP a => match c with
    | .builtin _ ⟨[.int _ ta], _⟩ => some ([(cC c, cC (.builtin "int.__abs__" ⟨[.int a ta], []⟩))], ret (.int a ta))
    | _ => none
  | .absN a r => match c with
    | .builtin _ ⟨[.int _ ta], _⟩ => some ([(cC c, cC (.builtin "int.__abs__" ⟨[.int a ta], []⟩))], Sem.fresh fun u => ret (.int r u))
    | _ => none
  | .get j vs i v => match c with
    | .builtin _ ⟨[_, .int _ ti], _⟩ => match T.get j with
      | some (b, o) => match o.data with
        | .seq xs _ => some ([(cC c, cC (.builtin "list.__getitem__" ⟨[.ref b, .int i ti], []⟩)), (cL xs.toList, cL vs), (cC (.call o.cls ⟨[], []⟩), cC (.call (.type "list") ⟨[], []⟩))], ret v)
        | _ => none
      | none => none
    | _ => none
  | .len j vs => match c with
    | .builtin _ _ => match T.get j with
      | some (b, o) => match o.data with
        | .seq xs _ => some ([(cC c, cC (.builtin "len" ⟨[.ref b], []⟩)), (cL xs.toList, cL vs), (cC (.call o.cls ⟨[], []⟩), cC (.call (.type "list") ⟨[], []⟩))], Sem.fresh fun _ => Sem.fresh fun u => ret (.int (.ofNat vs.length) u))
        | _ => none
      | none => none
    | _ => none
noncomputable def XE.Ok : XE → Prop
  | .lt a b r => decide (a < b) = r
  | .fmod a b r => b ≠ 0 ∧ a.fmod b = r
  | .absP a => ¬ a < 0
  | .absN a r => a < 0 ∧ -a = r
  | .len _ vs => (vs.length : Int) < 2 ^ 63
  | .get _ vs i v => 0 ≤ i ∧ i < 2 ^ 63 ∧ vs[i.toNat]? = some v
noncomputable def altX (xs : List XE) : AltT := fun op _ T c => match Nat.ble 20 op with
  | true => match xs[op - 20]? with
    | some e => e.tree T c
    | none => none
  | false => none
theorem gives_val {t : Sem Fin} {v : Value} (G : Gives t (.val v)) {prog : Program} {w : World} {A : Around} {R : Result → Shared → Prop} {s : Shared} (h : R (.ok (.ret v)) s) :
    wpAny (model prog w) A.in1 t (fun fin s' => match fin with | .done f => R (.ok f) s' | .again c' => c'.quiet = true ∧ codeAny (model prog w) A c' R s') (fun e s' => R (.error e) s') s := G.meets prog w A R s h
theorem gives_int {t : Sem Fin} {v : Int} (G : Gives t (.int v)) {prog : Program} {w : World} {A : Around} {R : Result → Shared → Prop} {s : Shared} (h : R (.ok (.ret (.int v s.toks))) { s with toks := s.toks + 1 }) :
    wpAny (model prog w) A.in1 t (fun fin s' => match fin with | .done f => R (.ok f) s' | .again c' => c'.quiet = true ∧ codeAny (model prog w) A c' R s') (fun e s' => R (.error e) s') s := G.meets prog w A R s h
theorem altX_ok {xs : List XE} (hxs : ∀ e ∈ xs, e.Ok) (V : Vx) (hb : Heap) (D : List Addr) : AltOk V hb D (altX xs) := by
  intro op kt T s c ob t RP e hob g p R hc hu h
  unfold altX at e
  split at e
  · split at e
    · rename_i x hx
      have hx : x.Ok := hxs x (List.mem_of_getElem? hx)
      cases x with
      | lt a b r =>
        unfold XE.tree at e
        dsimp only at e
        split at e
        · rename_i id x1 ta x2 tb kw
          cases e
          have hcc := hc.trans (cC_inj (hob _ List.mem_cons_self))
          refine code_of hcc (codeAny_builtin F.entry_int_lt (gives_val (AutoIntG1.int___lt___int_int_0 a ta b tb) ?_))
          have hx : decide (a < b) = r := hx
          show R (.ok (.ret (.bool (decide (a < b))))) s
          rw [hx]
          exact h
        · cases e
      | fmod a b r =>
        unfold XE.tree at e
        dsimp only at e
        split at e
        · rename_i id x1 ta x2 tb kw
          cases e
          have hcc := hc.trans (cC_inj (hob _ List.mem_cons_self))
          have hx : b ≠ 0 ∧ a.fmod b = r := hx
          refine code_of hcc (codeAny_builtin F.entry_int_mod (gives_int (AutoIntG6.int___mod___int_int_1 a ta b tb (by simpa using hx.1)) ?_))
          rw [hx.2]
          exact h
        · cases e
      | absP a =>
        unfold XE.tree at e
        dsimp only at e
        split at e
        · rename_i id x1 ta kw
          cases e
          have hcc := hc.trans (cC_inj (hob _ List.mem_cons_self))
          exact code_of hcc (codeAny_builtin F.entry_int_abs (gives_val (AutoIntG1.int___abs___int_1 a ta hx) h))
        · cases e
      | absN a r =>
        unfold XE.tree at e
        dsimp only at e
        split at e
        · rename_i id x1 ta kw
          cases e
          have hcc := hc.trans (cC_inj (hob _ List.mem_cons_self))
          have hx : a < 0 ∧ -a = r := hx
          refine code_of hcc (codeAny_builtin F.entry_int_abs (gives_int (AutoIntG0.int___abs___int_0 a ta hx.1) ?_))
          rw [hx.2]
          exact h
        · cases e
      | get j vs i v =>
        unfold XE.tree at e
        dsimp only at e
        split at e
        · rename_i id x1 x2 ti kw
          split at e
          · rename_i b o hT
            split at e
            · rename_i xs n hd
              cases e
              have hcc := hc.trans (cC_inj (hob _ List.mem_cons_self))
              have hl := cL_inj (hob _ (List.mem_cons_of_mem _ List.mem_cons_self))
              have hcl := cC_inj (hob _ (List.mem_cons_of_mem _ (List.mem_cons_of_mem _ List.mem_cons_self)))
              have hcl : o.cls = .type "list" := by injection hcl
              have ho := (RP.TH j b o hT).1
              have hx : 0 ≤ i ∧ i < 2 ^ 63 ∧ vs[i.toNat]? = some v := hx
              obtain ⟨h0, hfit, hxv⟩ := hx
              refine code_of hcc (codeAny_builtin entry_list_getitem ?_)
              show wpAny _ _ (Builtin.List.listSubscript? (.int i ti) >>= _) _ _ s
              refine wpAny_bind (wpAny_listSubscript_int (fitsIndex_of h0 hfit) ?_)
              clear hfit
              obtain ⟨m, rfl⟩ := Int.eq_ofNat_of_zero_le h0
              have hx' : xs[m]? = some v := by
                rw [← Array.getElem?_toList, hl]
                exact hxv
              show wpAny _ _ ((seqItemAt b m >>= fun r => pure (r.map (m, ·))) >>= _) _ _ s
              refine wpAny_bind (wpAny_bind (wpAny_seqItemAt ho hd (wpAny_pure ?_)))
              rw [hx']
              first
                | exact wpAny_bind (wpAny_pure (wpAny_pure h))
                | exact wpAny_pure h
            · cases e
          · cases e
        · cases e
      | len j vs =>
        unfold XE.tree at e
        dsimp only at e
        split at e
        · split at e
          · rename_i b o hT
            split at e
            · rename_i xs n hd
              cases e
              have hcc := hc.trans (cC_inj (hob _ List.mem_cons_self))
              have hl := cL_inj (hob _ (List.mem_cons_of_mem _ List.mem_cons_self))
              have hcl := cC_inj (hob _ (List.mem_cons_of_mem _ (List.mem_cons_of_mem _ List.mem_cons_self)))
              have hcl : o.cls = .type "list" := by injection hcl
              have ho := (RP.TH j b o hT).1
              have hx : (vs.length : Int) < 2 ^ 63 := hx
              have hsz : xs.size = vs.length := by rw [← hl]; rfl
              refine code_of hcc (codeAny_builtin entry_len ?_)
              refine wpAny_mono (wpAny_len_body_list (Q := fun r s' => R (.ok (.ret r)) s') ⟨o, ho, hcl, n, hd⟩ (by rw [hsz]; exact hx) ?_) (fun fin s' h' => by obtain ⟨r, rfl, hq⟩ := h'; exact hq) (fun _ _ x => x)
              rw [hsz]
              exact h
            · cases e
          · cases e
        · cases e
    · cases e
  · cases e
end Mine
end
section
open PySem PySem.W PySem.W.X PyProof.Rows
set_option maxRecDepth 100000
namespace Mine
set_option maxHeartbeats 0 in
/-- the looks at the law's text; o_law lays the program's twin, too -/
theorem law0 (h : PySem.Challenge.rw_pq0140_01.row.wellSaid = true → PySem.Challenge.rw_pq0140_01.row.Holds) : PySem.Challenge.rw_pq0140_01.Holds := by
  w_on; o_law
  exact h (by assumption)
noncomputable abbrev lawT : Program := PySem.W.Fast.tw187869246099578103
theorem lawT_eq : PySem.Challenge.rw_pq0140_01.row.prog = lawT := PySem.W.Fast.te187869246099578103
end Mine
end
section
open PySem PySem.W PySem.W.X
set_option maxRecDepth 100000
namespace Mine
noncomputable abbrev KH := @PyData.keyHash
noncomputable def bodyP : List Stmt := lawT.main.body
noncomputable def pick : List Stmt → Nat → Stmt
  | s :: _, 0 => s
  | _ :: l, n + 1 => pick l n
  | [], _ => .Pass ⟨0, 0, 0, 0⟩
noncomputable def fnA : Stmt → Arguments
  | .FunctionDef _ a _ _ _ _ _ _ _ _ => a
  | _ => default
noncomputable def fnB : Stmt → FuncBody
  | .FunctionDef _ _ b _ _ _ _ _ _ _ => .stmts b
  | _ => default
noncomputable def fnC : Stmt → Scope
  | .FunctionDef _ _ _ _ _ _ c _ _ _ => c
  | _ => default
noncomputable def clsB : Stmt → List Stmt
  | .ClassDef _ _ _ b _ _ _ _ _ _ _ => b
  | _ => []
noncomputable def fpI : Arguments := fnA (pick (clsB (pick bodyP 1)) 0)
noncomputable def fbI : FuncBody := fnB (pick (clsB (pick bodyP 1)) 0)
noncomputable def fcI : Scope := fnC (pick (clsB (pick bodyP 1)) 0)
noncomputable def fpJ : Arguments := fnA (pick (clsB (pick bodyP 31)) 0)
noncomputable def fbJ : FuncBody := fnB (pick (clsB (pick bodyP 31)) 0)
noncomputable def fcJ : Scope := fnC (pick (clsB (pick bodyP 31)) 0)
noncomputable def fp7 : Arguments := fnA (pick bodyP 7)
noncomputable def fb7 : FuncBody := fnB (pick bodyP 7)
noncomputable def fc7 : Scope := fnC (pick bodyP 7)
noncomputable def fp8 : Arguments := fnA (pick bodyP 8)
noncomputable def fb8 : FuncBody := fnB (pick bodyP 8)
noncomputable def fc8 : Scope := fnC (pick bodyP 8)
noncomputable def fp9 : Arguments := fnA (pick bodyP 9)
noncomputable def fb9 : FuncBody := fnB (pick bodyP 9)
noncomputable def fc9 : Scope := fnC (pick bodyP 9)
noncomputable def fp10 : Arguments := fnA (pick bodyP 10)
noncomputable def fb10 : FuncBody := fnB (pick bodyP 10)
noncomputable def fc10 : Scope := fnC (pick bodyP 10)
noncomputable def fp11 : Arguments := fnA (pick bodyP 11)
noncomputable def fb11 : FuncBody := fnB (pick bodyP 11)
noncomputable def fc11 : Scope := fnC (pick bodyP 11)
noncomputable def fp12 : Arguments := fnA (pick bodyP 12)
noncomputable def fb12 : FuncBody := fnB (pick bodyP 12)
noncomputable def fc12 : Scope := fnC (pick bodyP 12)
noncomputable def fp13 : Arguments := fnA (pick bodyP 13)
noncomputable def fb13 : FuncBody := fnB (pick bodyP 13)
noncomputable def fc13 : Scope := fnC (pick bodyP 13)
noncomputable def fp14 : Arguments := fnA (pick bodyP 14)
noncomputable def fb14 : FuncBody := fnB (pick bodyP 14)
noncomputable def fc14 : Scope := fnC (pick bodyP 14)
noncomputable def fp15 : Arguments := fnA (pick bodyP 15)
noncomputable def fb15 : FuncBody := fnB (pick bodyP 15)
noncomputable def fc15 : Scope := fnC (pick bodyP 15)
noncomputable def fp16 : Arguments := fnA (pick bodyP 16)
noncomputable def fb16 : FuncBody := fnB (pick bodyP 16)
noncomputable def fc16 : Scope := fnC (pick bodyP 16)
noncomputable def fp17 : Arguments := fnA (pick bodyP 17)
noncomputable def fb17 : FuncBody := fnB (pick bodyP 17)
noncomputable def fc17 : Scope := fnC (pick bodyP 17)
noncomputable def fp18 : Arguments := fnA (pick bodyP 18)
noncomputable def fb18 : FuncBody := fnB (pick bodyP 18)
noncomputable def fc18 : Scope := fnC (pick bodyP 18)
noncomputable def fp19 : Arguments := fnA (pick bodyP 19)
noncomputable def fb19 : FuncBody := fnB (pick bodyP 19)
noncomputable def fc19 : Scope := fnC (pick bodyP 19)
noncomputable def fp20 : Arguments := fnA (pick bodyP 20)
noncomputable def fb20 : FuncBody := fnB (pick bodyP 20)
noncomputable def fc20 : Scope := fnC (pick bodyP 20)
noncomputable def fp21 : Arguments := fnA (pick bodyP 21)
noncomputable def fb21 : FuncBody := fnB (pick bodyP 21)
noncomputable def fc21 : Scope := fnC (pick bodyP 21)
noncomputable def fp22 : Arguments := fnA (pick bodyP 22)
noncomputable def fb22 : FuncBody := fnB (pick bodyP 22)
noncomputable def fc22 : Scope := fnC (pick bodyP 22)
noncomputable def fp23 : Arguments := fnA (pick bodyP 23)
noncomputable def fb23 : FuncBody := fnB (pick bodyP 23)
noncomputable def fc23 : Scope := fnC (pick bodyP 23)
noncomputable def fp24 : Arguments := fnA (pick bodyP 24)
noncomputable def fb24 : FuncBody := fnB (pick bodyP 24)
noncomputable def fc24 : Scope := fnC (pick bodyP 24)
noncomputable def fp25 : Arguments := fnA (pick bodyP 25)
noncomputable def fb25 : FuncBody := fnB (pick bodyP 25)
noncomputable def fc25 : Scope := fnC (pick bodyP 25)
noncomputable def fp26 : Arguments := fnA (pick bodyP 26)
noncomputable def fb26 : FuncBody := fnB (pick bodyP 26)
noncomputable def fc26 : Scope := fnC (pick bodyP 26)
noncomputable def fp27 : Arguments := fnA (pick bodyP 27)
noncomputable def fb27 : FuncBody := fnB (pick bodyP 27)
noncomputable def fc27 : Scope := fnC (pick bodyP 27)
noncomputable def fp28 : Arguments := fnA (pick bodyP 28)
noncomputable def fb28 : FuncBody := fnB (pick bodyP 28)
noncomputable def fc28 : Scope := fnC (pick bodyP 28)
noncomputable def fp29 : Arguments := fnA (pick bodyP 29)
noncomputable def fb29 : FuncBody := fnB (pick bodyP 29)
noncomputable def fc29 : Scope := fnC (pick bodyP 29)
noncomputable def fp33 : Arguments := fnA (pick bodyP 33)
noncomputable def fb33 : FuncBody := fnB (pick bodyP 33)
noncomputable def fc33 : Scope := fnC (pick bodyP 33)
noncomputable def fp34 : Arguments := fnA (pick bodyP 34)
noncomputable def fb34 : FuncBody := fnB (pick bodyP 34)
noncomputable def fc34 : Scope := fnC (pick bodyP 34)
noncomputable def fp35 : Arguments := fnA (pick bodyP 35)
noncomputable def fb35 : FuncBody := fnB (pick bodyP 35)
noncomputable def fc35 : Scope := fnC (pick bodyP 35)
noncomputable def fp36 : Arguments := fnA (pick bodyP 36)
noncomputable def fb36 : FuncBody := fnB (pick bodyP 36)
noncomputable def fc36 : Scope := fnC (pick bodyP 36)
noncomputable def fp37 : Arguments := fnA (pick bodyP 37)
noncomputable def fb37 : FuncBody := fnB (pick bodyP 37)
noncomputable def fc37 : Scope := fnC (pick bodyP 37)
noncomputable def fp38 : Arguments := fnA (pick bodyP 38)
noncomputable def fb38 : FuncBody := fnB (pick bodyP 38)
noncomputable def fc38 : Scope := fnC (pick bodyP 38)
noncomputable def fp39 : Arguments := fnA (pick bodyP 39)
noncomputable def fb39 : FuncBody := fnB (pick bodyP 39)
noncomputable def fc39 : Scope := fnC (pick bodyP 39)
noncomputable def fp40 : Arguments := fnA (pick bodyP 40)
noncomputable def fb40 : FuncBody := fnB (pick bodyP 40)
noncomputable def fc40 : Scope := fnC (pick bodyP 40)
noncomputable def q0 : Str := ⟨#[95, 95, 110, 97, 109, 101, 95, 95]⟩
noncomputable def q1 : Str := ⟨#[98, 117, 105, 108, 116, 105, 110, 115]⟩
noncomputable def q2 : Str := ⟨#[95, 95, 100, 111, 99, 95, 95]⟩
noncomputable def q3 : Str := ⟨#[95, 95, 112, 97, 99, 107, 97, 103, 101, 95, 95]⟩
noncomputable def q4 : Str := ⟨#[95, 95, 108, 111, 97, 100, 101, 114, 95, 95]⟩
noncomputable def q5 : Str := ⟨#[95, 95, 115, 112, 101, 99, 95, 95]⟩
noncomputable def q6 : Str := ⟨#[95, 95, 98, 117, 105, 108, 100, 95, 99, 108, 97, 115, 115, 95, 95]⟩
noncomputable def q7 : Str := ⟨#[95, 95, 105, 109, 112, 111, 114, 116, 95, 95]⟩
noncomputable def q8 : Str := ⟨#[97, 98, 115]⟩
noncomputable def q9 : Str := ⟨#[97, 108, 108]⟩
noncomputable def q10 : Str := ⟨#[97, 110, 121]⟩
noncomputable def q11 : Str := ⟨#[97, 115, 99, 105, 105]⟩
noncomputable def q12 : Str := ⟨#[98, 105, 110]⟩
noncomputable def q13 : Str := ⟨#[98, 114, 101, 97, 107, 112, 111, 105, 110, 116]⟩
noncomputable def q14 : Str := ⟨#[99, 97, 108, 108, 97, 98, 108, 101]⟩
noncomputable def q15 : Str := ⟨#[99, 104, 114]⟩
noncomputable def q16 : Str := ⟨#[99, 111, 109, 112, 105, 108, 101]⟩
noncomputable def q17 : Str := ⟨#[100, 101, 108, 97, 116, 116, 114]⟩
noncomputable def q18 : Str := ⟨#[100, 105, 114]⟩
noncomputable def q19 : Str := ⟨#[100, 105, 118, 109, 111, 100]⟩
noncomputable def q20 : Str := ⟨#[101, 118, 97, 108]⟩
noncomputable def q21 : Str := ⟨#[101, 120, 101, 99]⟩
noncomputable def q22 : Str := ⟨#[102, 111, 114, 109, 97, 116]⟩
noncomputable def q23 : Str := ⟨#[103, 101, 116, 97, 116, 116, 114]⟩
noncomputable def q24 : Str := ⟨#[103, 108, 111, 98, 97, 108, 115]⟩
noncomputable def q25 : Str := ⟨#[104, 97, 115, 97, 116, 116, 114]⟩
noncomputable def q26 : Str := ⟨#[104, 97, 115, 104]⟩
noncomputable def q27 : Str := ⟨#[104, 101, 120]⟩
noncomputable def q28 : Str := ⟨#[105, 100]⟩
noncomputable def q29 : Str := ⟨#[105, 110, 112, 117, 116]⟩
noncomputable def q30 : Str := ⟨#[105, 115, 105, 110, 115, 116, 97, 110, 99, 101]⟩
noncomputable def q31 : Str := ⟨#[105, 115, 115, 117, 98, 99, 108, 97, 115, 115]⟩
noncomputable def q32 : Str := ⟨#[105, 116, 101, 114]⟩
noncomputable def q33 : Str := ⟨#[97, 105, 116, 101, 114]⟩
noncomputable def q34 : Str := ⟨#[108, 101, 110]⟩
noncomputable def q35 : Str := ⟨#[108, 111, 99, 97, 108, 115]⟩
noncomputable def q36 : Str := ⟨#[109, 97, 120]⟩
noncomputable def q37 : Str := ⟨#[109, 105, 110]⟩
noncomputable def q38 : Str := ⟨#[110, 101, 120, 116]⟩
noncomputable def q39 : Str := ⟨#[97, 110, 101, 120, 116]⟩
noncomputable def q40 : Str := ⟨#[111, 99, 116]⟩
noncomputable def q41 : Str := ⟨#[111, 114, 100]⟩
noncomputable def q42 : Str := ⟨#[112, 111, 119]⟩
noncomputable def q43 : Str := ⟨#[112, 114, 105, 110, 116]⟩
noncomputable def q44 : Str := ⟨#[114, 101, 112, 114]⟩
noncomputable def q45 : Str := ⟨#[114, 111, 117, 110, 100]⟩
noncomputable def q46 : Str := ⟨#[115, 101, 116, 97, 116, 116, 114]⟩
noncomputable def q47 : Str := ⟨#[115, 111, 114, 116, 101, 100]⟩
noncomputable def q48 : Str := ⟨#[115, 117, 109]⟩
noncomputable def q49 : Str := ⟨#[118, 97, 114, 115]⟩
noncomputable def q50 : Str := ⟨#[78, 111, 110, 101]⟩
noncomputable def q51 : Str := ⟨#[69, 108, 108, 105, 112, 115, 105, 115]⟩
noncomputable def q52 : Str := ⟨#[78, 111, 116, 73, 109, 112, 108, 101, 109, 101, 110, 116, 101, 100]⟩
noncomputable def q53 : Str := ⟨#[70, 97, 108, 115, 101]⟩
noncomputable def q54 : Str := ⟨#[84, 114, 117, 101]⟩
noncomputable def q55 : Str := ⟨#[98, 111, 111, 108]⟩
noncomputable def q56 : Str := ⟨#[109, 101, 109, 111, 114, 121, 118, 105, 101, 119]⟩
noncomputable def q57 : Str := ⟨#[98, 121, 116, 101, 97, 114, 114, 97, 121]⟩
noncomputable def q58 : Str := ⟨#[98, 121, 116, 101, 115]⟩
noncomputable def q59 : Str := ⟨#[99, 108, 97, 115, 115, 109, 101, 116, 104, 111, 100]⟩
noncomputable def q60 : Str := ⟨#[99, 111, 109, 112, 108, 101, 120]⟩
noncomputable def q61 : Str := ⟨#[100, 105, 99, 116]⟩
noncomputable def q62 : Str := ⟨#[101, 110, 117, 109, 101, 114, 97, 116, 101]⟩
noncomputable def q63 : Str := ⟨#[102, 105, 108, 116, 101, 114]⟩
noncomputable def q64 : Str := ⟨#[102, 108, 111, 97, 116]⟩
noncomputable def q65 : Str := ⟨#[102, 114, 111, 122, 101, 110, 115, 101, 116]⟩
noncomputable def q66 : Str := ⟨#[112, 114, 111, 112, 101, 114, 116, 121]⟩
noncomputable def q67 : Str := ⟨#[105, 110, 116]⟩
noncomputable def q68 : Str := ⟨#[108, 105, 115, 116]⟩
noncomputable def q69 : Str := ⟨#[109, 97, 112]⟩
noncomputable def q70 : Str := ⟨#[111, 98, 106, 101, 99, 116]⟩
noncomputable def q71 : Str := ⟨#[114, 97, 110, 103, 101]⟩
noncomputable def q72 : Str := ⟨#[114, 101, 118, 101, 114, 115, 101, 100]⟩
noncomputable def q73 : Str := ⟨#[115, 101, 116]⟩
noncomputable def q74 : Str := ⟨#[115, 108, 105, 99, 101]⟩
noncomputable def q75 : Str := ⟨#[115, 116, 97, 116, 105, 99, 109, 101, 116, 104, 111, 100]⟩
noncomputable def q76 : Str := ⟨#[115, 116, 114]⟩
noncomputable def q77 : Str := ⟨#[115, 117, 112, 101, 114]⟩
noncomputable def q78 : Str := ⟨#[116, 117, 112, 108, 101]⟩
noncomputable def q79 : Str := ⟨#[116, 121, 112, 101]⟩
noncomputable def q80 : Str := ⟨#[122, 105, 112]⟩
noncomputable def q81 : Str := ⟨#[95, 95, 100, 101, 98, 117, 103, 95, 95]⟩
noncomputable def q82 : Str := ⟨#[66, 97, 115, 101, 69, 120, 99, 101, 112, 116, 105, 111, 110]⟩
noncomputable def q83 : Str := ⟨#[66, 97, 115, 101, 69, 120, 99, 101, 112, 116, 105, 111, 110, 71, 114, 111, 117, 112]⟩
noncomputable def q84 : Str := ⟨#[69, 120, 99, 101, 112, 116, 105, 111, 110]⟩
noncomputable def q85 : Str := ⟨#[71, 101, 110, 101, 114, 97, 116, 111, 114, 69, 120, 105, 116]⟩
noncomputable def q86 : Str := ⟨#[75, 101, 121, 98, 111, 97, 114, 100, 73, 110, 116, 101, 114, 114, 117, 112, 116]⟩
noncomputable def q87 : Str := ⟨#[83, 121, 115, 116, 101, 109, 69, 120, 105, 116]⟩
noncomputable def q88 : Str := ⟨#[65, 114, 105, 116, 104, 109, 101, 116, 105, 99, 69, 114, 114, 111, 114]⟩
noncomputable def q89 : Str := ⟨#[65, 115, 115, 101, 114, 116, 105, 111, 110, 69, 114, 114, 111, 114]⟩
noncomputable def q90 : Str := ⟨#[65, 116, 116, 114, 105, 98, 117, 116, 101, 69, 114, 114, 111, 114]⟩
noncomputable def q91 : Str := ⟨#[66, 117, 102, 102, 101, 114, 69, 114, 114, 111, 114]⟩
noncomputable def q92 : Str := ⟨#[69, 79, 70, 69, 114, 114, 111, 114]⟩
noncomputable def q93 : Str := ⟨#[73, 109, 112, 111, 114, 116, 69, 114, 114, 111, 114]⟩
noncomputable def q94 : Str := ⟨#[76, 111, 111, 107, 117, 112, 69, 114, 114, 111, 114]⟩
noncomputable def q95 : Str := ⟨#[77, 101, 109, 111, 114, 121, 69, 114, 114, 111, 114]⟩
noncomputable def q96 : Str := ⟨#[78, 97, 109, 101, 69, 114, 114, 111, 114]⟩
noncomputable def q97 : Str := ⟨#[79, 83, 69, 114, 114, 111, 114]⟩
noncomputable def q98 : Str := ⟨#[82, 101, 102, 101, 114, 101, 110, 99, 101, 69, 114, 114, 111, 114]⟩
noncomputable def q99 : Str := ⟨#[82, 117, 110, 116, 105, 109, 101, 69, 114, 114, 111, 114]⟩
noncomputable def q100 : Str := ⟨#[83, 116, 111, 112, 65, 115, 121, 110, 99, 73, 116, 101, 114, 97, 116, 105, 111, 110]⟩
noncomputable def q101 : Str := ⟨#[83, 116, 111, 112, 73, 116, 101, 114, 97, 116, 105, 111, 110]⟩
noncomputable def q102 : Str := ⟨#[83, 121, 110, 116, 97, 120, 69, 114, 114, 111, 114]⟩
noncomputable def q103 : Str := ⟨#[83, 121, 115, 116, 101, 109, 69, 114, 114, 111, 114]⟩
noncomputable def q104 : Str := ⟨#[84, 121, 112, 101, 69, 114, 114, 111, 114]⟩
noncomputable def q105 : Str := ⟨#[86, 97, 108, 117, 101, 69, 114, 114, 111, 114]⟩
noncomputable def q106 : Str := ⟨#[87, 97, 114, 110, 105, 110, 103]⟩
noncomputable def q107 : Str := ⟨#[70, 108, 111, 97, 116, 105, 110, 103, 80, 111, 105, 110, 116, 69, 114, 114, 111, 114]⟩
noncomputable def q108 : Str := ⟨#[79, 118, 101, 114, 102, 108, 111, 119, 69, 114, 114, 111, 114]⟩
noncomputable def q109 : Str := ⟨#[90, 101, 114, 111, 68, 105, 118, 105, 115, 105, 111, 110, 69, 114, 114, 111, 114]⟩
noncomputable def q110 : Str := ⟨#[66, 121, 116, 101, 115, 87, 97, 114, 110, 105, 110, 103]⟩
noncomputable def q111 : Str := ⟨#[68, 101, 112, 114, 101, 99, 97, 116, 105, 111, 110, 87, 97, 114, 110, 105, 110, 103]⟩
noncomputable def q112 : Str := ⟨#[69, 110, 99, 111, 100, 105, 110, 103, 87, 97, 114, 110, 105, 110, 103]⟩
noncomputable def q113 : Str := ⟨#[70, 117, 116, 117, 114, 101, 87, 97, 114, 110, 105, 110, 103]⟩
noncomputable def q114 : Str := ⟨#[73, 109, 112, 111, 114, 116, 87, 97, 114, 110, 105, 110, 103]⟩
noncomputable def q115 : Str := ⟨#[80, 101, 110, 100, 105, 110, 103, 68, 101, 112, 114, 101, 99, 97, 116, 105, 111, 110, 87, 97, 114, 110, 105, 110, 103]⟩
noncomputable def q116 : Str := ⟨#[82, 101, 115, 111, 117, 114, 99, 101, 87, 97, 114, 110, 105, 110, 103]⟩
noncomputable def q117 : Str := ⟨#[82, 117, 110, 116, 105, 109, 101, 87, 97, 114, 110, 105, 110, 103]⟩
noncomputable def q118 : Str := ⟨#[83, 121, 110, 116, 97, 120, 87, 97, 114, 110, 105, 110, 103]⟩
noncomputable def q119 : Str := ⟨#[85, 110, 105, 99, 111, 100, 101, 87, 97, 114, 110, 105, 110, 103]⟩
noncomputable def q120 : Str := ⟨#[85, 115, 101, 114, 87, 97, 114, 110, 105, 110, 103]⟩
noncomputable def q121 : Str := ⟨#[66, 108, 111, 99, 107, 105, 110, 103, 73, 79, 69, 114, 114, 111, 114]⟩
noncomputable def q122 : Str := ⟨#[67, 104, 105, 108, 100, 80, 114, 111, 99, 101, 115, 115, 69, 114, 114, 111, 114]⟩
noncomputable def q123 : Str := ⟨#[67, 111, 110, 110, 101, 99, 116, 105, 111, 110, 69, 114, 114, 111, 114]⟩
noncomputable def q124 : Str := ⟨#[70, 105, 108, 101, 69, 120, 105, 115, 116, 115, 69, 114, 114, 111, 114]⟩
noncomputable def q125 : Str := ⟨#[70, 105, 108, 101, 78, 111, 116, 70, 111, 117, 110, 100, 69, 114, 114, 111, 114]⟩
noncomputable def q126 : Str := ⟨#[73, 110, 116, 101, 114, 114, 117, 112, 116, 101, 100, 69, 114, 114, 111, 114]⟩
noncomputable def q127 : Str := ⟨#[73, 115, 65, 68, 105, 114, 101, 99, 116, 111, 114, 121, 69, 114, 114, 111, 114]⟩
noncomputable def q128 : Str := ⟨#[78, 111, 116, 65, 68, 105, 114, 101, 99, 116, 111, 114, 121, 69, 114, 114, 111, 114]⟩
noncomputable def q129 : Str := ⟨#[80, 101, 114, 109, 105, 115, 115, 105, 111, 110, 69, 114, 114, 111, 114]⟩
noncomputable def q130 : Str := ⟨#[80, 114, 111, 99, 101, 115, 115, 76, 111, 111, 107, 117, 112, 69, 114, 114, 111, 114]⟩
noncomputable def q131 : Str := ⟨#[84, 105, 109, 101, 111, 117, 116, 69, 114, 114, 111, 114]⟩
noncomputable def q132 : Str := ⟨#[73, 110, 100, 101, 110, 116, 97, 116, 105, 111, 110, 69, 114, 114, 111, 114]⟩
noncomputable def q133 : Str := ⟨#[95, 73, 110, 99, 111, 109, 112, 108, 101, 116, 101, 73, 110, 112, 117, 116, 69, 114, 114, 111, 114]⟩
noncomputable def q134 : Str := ⟨#[73, 110, 100, 101, 120, 69, 114, 114, 111, 114]⟩
noncomputable def q135 : Str := ⟨#[75, 101, 121, 69, 114, 114, 111, 114]⟩
noncomputable def q136 : Str := ⟨#[77, 111, 100, 117, 108, 101, 78, 111, 116, 70, 111, 117, 110, 100, 69, 114, 114, 111, 114]⟩
noncomputable def q137 : Str := ⟨#[78, 111, 116, 73, 109, 112, 108, 101, 109, 101, 110, 116, 101, 100, 69, 114, 114, 111, 114]⟩
noncomputable def q138 : Str := ⟨#[80, 121, 116, 104, 111, 110, 70, 105, 110, 97, 108, 105, 122, 97, 116, 105, 111, 110, 69, 114, 114, 111, 114]⟩
noncomputable def q139 : Str := ⟨#[82, 101, 99, 117, 114, 115, 105, 111, 110, 69, 114, 114, 111, 114]⟩
noncomputable def q140 : Str := ⟨#[85, 110, 98, 111, 117, 110, 100, 76, 111, 99, 97, 108, 69, 114, 114, 111, 114]⟩
noncomputable def q141 : Str := ⟨#[85, 110, 105, 99, 111, 100, 101, 69, 114, 114, 111, 114]⟩
noncomputable def q142 : Str := ⟨#[66, 114, 111, 107, 101, 110, 80, 105, 112, 101, 69, 114, 114, 111, 114]⟩
noncomputable def q143 : Str := ⟨#[67, 111, 110, 110, 101, 99, 116, 105, 111, 110, 65, 98, 111, 114, 116, 101, 100, 69, 114, 114, 111, 114]⟩
noncomputable def q144 : Str := ⟨#[67, 111, 110, 110, 101, 99, 116, 105, 111, 110, 82, 101, 102, 117, 115, 101, 100, 69, 114, 114, 111, 114]⟩
noncomputable def q145 : Str := ⟨#[67, 111, 110, 110, 101, 99, 116, 105, 111, 110, 82, 101, 115, 101, 116, 69, 114, 114, 111, 114]⟩
noncomputable def q146 : Str := ⟨#[84, 97, 98, 69, 114, 114, 111, 114]⟩
noncomputable def q147 : Str := ⟨#[85, 110, 105, 99, 111, 100, 101, 68, 101, 99, 111, 100, 101, 69, 114, 114, 111, 114]⟩
noncomputable def q148 : Str := ⟨#[85, 110, 105, 99, 111, 100, 101, 69, 110, 99, 111, 100, 101, 69, 114, 114, 111, 114]⟩
noncomputable def q149 : Str := ⟨#[85, 110, 105, 99, 111, 100, 101, 84, 114, 97, 110, 115, 108, 97, 116, 101, 69, 114, 114, 111, 114]⟩
noncomputable def q150 : Str := ⟨#[69, 120, 99, 101, 112, 116, 105, 111, 110, 71, 114, 111, 117, 112]⟩
noncomputable def q151 : Str := ⟨#[69, 110, 118, 105, 114, 111, 110, 109, 101, 110, 116, 69, 114, 114, 111, 114]⟩
noncomputable def q152 : Str := ⟨#[73, 79, 69, 114, 114, 111, 114]⟩
noncomputable def q153 : Str := ⟨#[111, 112, 101, 110]⟩
noncomputable def q154 : Str := ⟨#[113, 117, 105, 116]⟩
noncomputable def q155 : Str := ⟨#[101, 120, 105, 116]⟩
noncomputable def q156 : Str := ⟨#[99, 111, 112, 121, 114, 105, 103, 104, 116]⟩
noncomputable def q157 : Str := ⟨#[99, 114, 101, 100, 105, 116, 115]⟩
noncomputable def q158 : Str := ⟨#[108, 105, 99, 101, 110, 115, 101]⟩
noncomputable def q159 : Str := ⟨#[104, 101, 108, 112]⟩
noncomputable def q160 : Str := ⟨#[95, 95, 109, 97, 105, 110, 95, 95]⟩
noncomputable def q161 : Str := ⟨#[116, 121, 112, 101, 46, 95, 95, 115, 117, 98, 99, 108, 97, 115, 115, 101, 115, 95, 95, 46, 69, 120, 99, 101, 112, 116, 105, 111, 110, 46, 48]⟩
noncomputable def q162 : Str := ⟨#[116, 121, 112, 101, 46, 95, 95, 115, 117, 98, 99, 108, 97, 115, 115, 101, 115, 95, 95, 46, 69, 120, 99, 101, 112, 116, 105, 111, 110, 46, 110]⟩
noncomputable def q163 : Str := ⟨#[108, 97, 119, 95, 112, 113, 48, 49, 52, 48, 95, 48, 49]⟩
noncomputable def q164 : Str := ⟨#[95, 95, 97, 110, 110, 111, 116, 97, 116, 105, 111, 110, 115, 95, 95]⟩
noncomputable def q165 : Str := ⟨#[95, 95, 98, 117, 105, 108, 116, 105, 110, 115, 95, 95]⟩
noncomputable def q166 : Str := ⟨#[95, 95, 102, 105, 108, 101, 95, 95]⟩
noncomputable def q167 : Str := ⟨#[47, 99, 108, 97, 105, 109, 47, 99, 117, 116, 46, 112, 121]⟩
noncomputable def q168 : Str := ⟨#[95, 95, 99, 97, 99, 104, 101, 100, 95, 95]⟩
noncomputable def q169 : Str := ⟨#[66, 97, 115, 105, 99, 69, 114, 114, 111, 114]⟩
noncomputable def q170 : Str := ⟨#[77, 79, 83, 84, 95, 67, 72, 65, 78, 78, 69, 76]⟩
noncomputable def q171 : Str := ⟨#[77, 79, 83, 84, 95, 78, 65, 77, 69]⟩
noncomputable def q172 : Str := ⟨#[77, 79, 83, 84, 95, 83, 73, 90, 69]⟩
noncomputable def q173 : Str := ⟨#[82, 79, 87, 95, 69, 78, 68]⟩
noncomputable def q174 : Str := ⟨#[10]⟩
noncomputable def q175 : Str := ⟨#[99, 104, 101, 99, 107, 95, 110, 97, 109, 101]⟩
noncomputable def q176 : Str := ⟨#[111, 112, 101, 110, 95, 102, 105, 108, 101]⟩
noncomputable def q177 : Str := ⟨#[105, 115, 95, 119, 114, 105, 116, 116, 101, 110, 95, 101, 108, 115, 101, 119, 104, 101, 114, 101]⟩
noncomputable def q178 : Str := ⟨#[99, 104, 97, 110, 110, 101, 108, 95, 111, 102]⟩
noncomputable def q179 : Str := ⟨#[99, 108, 111, 115, 101, 95, 102, 105, 108, 101]⟩
noncomputable def q180 : Str := ⟨#[99, 108, 111, 115, 101, 95, 97, 108, 108]⟩
noncomputable def q181 : Str := ⟨#[107, 105, 108, 108, 95, 102, 105, 108, 101]⟩
noncomputable def q182 : Str := ⟨#[114, 101, 110, 97, 109, 101, 95, 102, 105, 108, 101]⟩
noncomputable def q183 : Str := ⟨#[119, 114, 105, 116, 101, 95, 116, 101, 120, 116]⟩
noncomputable def q184 : Str := ⟨#[119, 114, 105, 116, 101, 95, 114, 111, 119]⟩
noncomputable def q185 : Str := ⟨#[114, 101, 115, 116, 95, 111, 102]⟩
noncomputable def q186 : Str := ⟨#[103, 111, 95, 112, 97, 115, 116]⟩
noncomputable def q187 : Str := ⟨#[114, 101, 97, 100, 95, 114, 111, 119]⟩
noncomputable def q188 : Str := ⟨#[114, 101, 97, 100, 95, 115, 105, 103, 110, 115]⟩
noncomputable def q189 : Str := ⟨#[102, 105, 108, 101, 95, 101, 110, 100, 101, 100]⟩
noncomputable def q190 : Str := ⟨#[112, 108, 97, 99, 101, 95, 111, 102]⟩
noncomputable def q191 : Str := ⟨#[108, 101, 110, 103, 116, 104, 95, 111, 102]⟩
noncomputable def q192 : Str := ⟨#[115, 101, 116, 95, 102, 105, 101, 108, 100, 115]⟩
noncomputable def q193 : Str := ⟨#[112, 108, 97, 99, 101, 100]⟩
noncomputable def q194 : Str := ⟨#[115, 101, 116, 95, 112, 108, 97, 99, 101, 100]⟩
noncomputable def q195 : Str := ⟨#[114, 101, 99, 111, 114, 100, 95, 116, 111, 108, 100]⟩
noncomputable def q196 : Str := ⟨#[103, 101, 116, 95, 114, 101, 99, 111, 114, 100]⟩
noncomputable def q197 : Str := ⟨#[112, 117, 116, 95, 114, 101, 99, 111, 114, 100]⟩
noncomputable def q198 : Str := ⟨#[87, 111, 114, 108, 100]⟩
noncomputable def q199 : Str := ⟨#[95, 108, 97, 119, 95, 110, 101, 120, 116]⟩
noncomputable def q200 : Str := ⟨#[95, 108, 97, 119, 95, 119, 111, 114, 108, 100]⟩
noncomputable def q201 : Str := ⟨#[95, 108, 97, 119, 95, 111, 112, 101, 110, 105, 110, 103, 115]⟩
noncomputable def q202 : Str := ⟨#[95, 108, 97, 119, 95, 114, 111, 119, 115]⟩
noncomputable def q203 : Str := ⟨#[95, 108, 97, 119, 95, 114, 101, 99, 111, 114, 100, 115]⟩
noncomputable def q204 : Str := ⟨#[95, 108, 97, 119, 95, 104, 101, 108, 100]⟩
noncomputable def q205 : Str := ⟨#[95, 108, 97, 119, 95, 99, 111, 100, 101]⟩
noncomputable def q206 : Str := ⟨#[108, 97, 119]⟩
noncomputable def q207 : Str := ⟨#[60, 109, 111, 100, 117, 108, 101, 62]⟩
noncomputable def q208 : Str := ⟨#[]⟩
noncomputable def q209 : Str := ⟨#[95, 95, 99, 108, 97, 115, 115, 95, 95]⟩
noncomputable def q210 : Str := ⟨#[115, 101, 108, 102]⟩
noncomputable def q211 : Str := ⟨#[99, 111, 100, 101]⟩
noncomputable def q212 : Str := ⟨#[116, 111, 108, 100]⟩
noncomputable def q213 : Str := ⟨#[95, 95, 105, 110, 105, 116, 95, 95]⟩
noncomputable def q214 : Str := ⟨#[66, 97, 115, 105, 99, 69, 114, 114, 111, 114, 46, 95, 95, 105, 110, 105, 116, 95, 95]⟩
noncomputable def q215 : Str := ⟨#[98, 97, 115, 105, 99, 112, 108, 117, 115, 46, 118, 97, 108, 117, 101, 115]⟩
noncomputable def q216 : Str := ⟨#[95, 95, 109, 111, 100, 117, 108, 101, 95, 95]⟩
noncomputable def q217 : Str := ⟨#[95, 95, 102, 105, 114, 115, 116, 108, 105, 110, 101, 110, 111, 95, 95]⟩
noncomputable def q218 : Str := ⟨#[95, 95, 115, 116, 97, 116, 105, 99, 95, 97, 116, 116, 114, 105, 98, 117, 116, 101, 115, 95, 95]⟩
noncomputable def q219 : Str := ⟨#[95, 95, 119, 101, 97, 107, 114, 101, 102, 95, 95]⟩
noncomputable def q220 : Str := ⟨#[98, 97, 115, 105, 99, 112, 108, 117, 115, 46, 102, 105, 108, 101, 115]⟩
noncomputable def q221 : Str := ⟨#[119, 111, 114, 108, 100]⟩
noncomputable def q222 : Str := ⟨#[109, 111, 100, 101]⟩
noncomputable def q223 : Str := ⟨#[99, 104, 97, 110, 110, 101, 108]⟩
noncomputable def q224 : Str := ⟨#[110, 97, 109, 101]⟩
noncomputable def q225 : Str := ⟨#[115, 105, 122, 101]⟩
noncomputable def q226 : Str := ⟨#[97, 116]⟩
noncomputable def q227 : Str := ⟨#[109, 97, 100, 101]⟩
noncomputable def q228 : Str := ⟨#[111, 116, 104, 101, 114]⟩
noncomputable def q229 : Str := ⟨#[109, 111, 100, 101, 115]⟩
noncomputable def q230 : Str := ⟨#[102, 111, 117, 110, 100]⟩
noncomputable def q231 : Str := ⟨#[116, 101, 120, 116]⟩
noncomputable def q232 : Str := ⟨#[109, 97, 110, 121]⟩
noncomputable def q233 : Str := ⟨#[108, 101, 102, 116]⟩
noncomputable def q234 : Str := ⟨#[101, 110, 100]⟩
noncomputable def q235 : Str := ⟨#[114, 111, 119]⟩
noncomputable def q236 : Str := ⟨#[105, 115, 95, 114, 105, 103, 104, 116]⟩
noncomputable def q237 : Str := ⟨#[98, 108, 97, 110, 107, 115]⟩
noncomputable def q238 : Str := ⟨#[110, 117, 109, 98, 101, 114]⟩
noncomputable def q239 : Str := ⟨#[98, 101, 103, 117, 110]⟩
noncomputable def q240 : Str := ⟨#[114, 111, 111, 109]⟩
noncomputable def q241 : Str := ⟨#[98, 105, 116, 115]⟩
noncomputable def q242 : Str := ⟨#[100, 105, 103, 105, 116, 115]⟩
noncomputable def q243 : Str := ⟨#[109, 111, 115, 116, 95, 115, 116, 101, 112, 115]⟩
noncomputable def q244 : Str := ⟨#[109, 111, 115, 116, 95, 100, 101, 112, 116, 104]⟩
noncomputable def q245 : Str := ⟨#[87, 111, 114, 108, 100, 46, 95, 95, 105, 110, 105, 116, 95, 95]⟩
noncomputable def q246 : Str := ⟨#[98, 97, 115, 105, 99, 112, 108, 117, 115, 46, 119, 111, 114, 108, 100]⟩
noncomputable def q247 : Str := ⟨#[97, 114, 114, 97, 121, 115]⟩
noncomputable def q248 : Str := ⟨#[98, 97, 115, 101]⟩
noncomputable def q249 : Str := ⟨#[99, 111, 109, 109, 111, 110]⟩
noncomputable def q250 : Str := ⟨#[100, 97, 116, 97]⟩
noncomputable def q251 : Str := ⟨#[100, 101, 112, 116, 104]⟩
noncomputable def q252 : Str := ⟨#[101, 114, 114, 111, 114, 95, 99, 111, 100, 101]⟩
noncomputable def q253 : Str := ⟨#[101, 114, 114, 111, 114, 95, 108, 105, 110, 101]⟩
noncomputable def q254 : Str := ⟨#[102, 105, 101, 108, 100, 115]⟩
noncomputable def q255 : Str := ⟨#[102, 105, 108, 101, 115]⟩
noncomputable def q256 : Str := ⟨#[102, 110, 115]⟩
noncomputable def q257 : Str := ⟨#[104, 97, 110, 100, 108, 101, 114]⟩
noncomputable def q258 : Str := ⟨#[105, 110, 112, 117, 116, 115]⟩
noncomputable def q259 : Str := ⟨#[105, 115, 95, 104, 97, 110, 100, 108, 105, 110, 103]⟩
noncomputable def q260 : Str := ⟨#[105, 115, 95, 116, 114, 97, 99, 101, 100]⟩
noncomputable def q261 : Str := ⟨#[107, 105, 110, 100, 115]⟩
noncomputable def q262 : Str := ⟨#[110, 97, 109, 101, 115]⟩
noncomputable def q263 : Str := ⟨#[111, 117, 116]⟩
noncomputable def q264 : Str := ⟨#[115, 101, 101, 100]⟩
noncomputable def q265 : Str := ⟨#[115, 112, 111, 116]⟩
noncomputable def q266 : Str := ⟨#[115, 116, 101, 112, 115]⟩
noncomputable def q267 : Str := ⟨#[116, 114, 97, 99, 101, 115]⟩
noncomputable def q268 : Str := ⟨#[95, 95, 100, 105, 99, 116, 95, 95]⟩
noncomputable def q269 : Str := ⟨#[102, 101, 101, 100]⟩
noncomputable def q270 : Str := ⟨#[99, 101, 108, 108, 115]⟩
noncomputable def q271 : Str := ⟨#[116, 117, 114, 110]⟩
noncomputable def q272 : Str := ⟨#[100, 101, 101, 100]⟩
noncomputable def q273 : Str := ⟨#[102, 97, 117, 108, 116]⟩
noncomputable def q274 : Str := ⟨#[115, 99, 114, 105, 112, 116]⟩
noncomputable def q275 : Str := ⟨#[104, 101, 108, 100]⟩
noncomputable def q276 : Str := ⟨#[101, 118, 101, 114, 121]⟩

noncomputable def zo1 (P : Params) : Obj := ⟨(.type SZ.s14018661285674007319x4), none, (.dict #[⟨(KH P q0), (.str q0 1), (.str q1 160)⟩, ⟨(KH P q2), (.str q2 2), (.builtin "builtins.__doc__:str#opaque")⟩, ⟨(KH P q3), (.str q3 3), (.builtin "builtins.__package__:str#opaque")⟩, ⟨(KH P q4), (.str q4 4), (.builtin "builtins.__loader__:shared#opaque")⟩, ⟨(KH P q5), (.str q5 5), (.builtin SZ.s11665532747177232413x24)⟩, ⟨(KH P q6), (.str q6 6), (.builtin SZ.s15183661809925369436x15)⟩, ⟨(KH P q7), (.str q7 7), (.builtin SZ.s13915890719876406383x10)⟩, ⟨(KH P q8), (.str q8 8), (.builtin SZ.s13459172003223722735x3)⟩, ⟨(KH P q9), (.str q9 9), (.builtin SZ.s10557405761357834076x3)⟩, ⟨(KH P q10), (.str q10 10), (.builtin SZ.s4233737765568776869x3)⟩, ⟨(KH P q11), (.str q11 11), (.builtin SZ.s2508922471967985374x5)⟩, ⟨(KH P q12), (.str q12 12), (.builtin SZ.s15574269061696679450x3)⟩, ⟨(KH P q13), (.str q13 13), (.builtin SZ.s6016482663378992977x10)⟩, ⟨(KH P q14), (.str q14 14), (.builtin SZ.s5596568736180474577x8)⟩, ⟨(KH P q15), (.str q15 15), (.builtin SZ.s2839554839881490554x3)⟩, ⟨(KH P q16), (.str q16 16), (.builtin SZ.s725004073602090463x7)⟩, ⟨(KH P q17), (.str q17 17), (.builtin SZ.s9436932552931045734x7)⟩, ⟨(KH P q18), (.str q18 18), (.builtin SZ.s2754603736356183583x3)⟩, ⟨(KH P q19), (.str q19 19), (.builtin SZ.s15185746759980889043x6)⟩, ⟨(KH P q20), (.str q20 20), (.builtin SZ.s8192189862530294059x4)⟩, ⟨(KH P q21), (.str q21 21), (.builtin SZ.s7038307821325472102x4)⟩, ⟨(KH P q22), (.str q22 22), (.builtin SZ.s5662562618415449548x6)⟩, ⟨(KH P q23), (.str q23 23), (.builtin SZ.s15281542589158584767x7)⟩, ⟨(KH P q24), (.str q24 24), (.builtin SZ.s17651547275483570877x7)⟩, ⟨(KH P q25), (.str q25 25), (.builtin SZ.s4036449017235975746x7)⟩, ⟨(KH P q26), (.str q26 26), (.builtin SZ.s8879979712987360175x4)⟩, ⟨(KH P q27), (.str q27 27), (.builtin SZ.s1801250619170735830x3)⟩, ⟨(KH P q28), (.str q28 28), (.builtin SZ.s17659931425627118568x2)⟩, ⟨(KH P q29), (.str q29 29), (.builtin SZ.s6063217899685152688x5)⟩, ⟨(KH P q30), (.str q30 30), (.builtin SZ.s8008927332132565319x10)⟩, ⟨(KH P q31), (.str q31 31), (.builtin SZ.s3544116645089599534x10)⟩, ⟨(KH P q32), (.str q32 32), (.builtin SZ.s13761710972054866084x4)⟩, ⟨(KH P q33), (.str q33 33), (.builtin SZ.s12896375587409280029x5)⟩, ⟨(KH P q34), (.str q34 34), (.builtin SZ.s13014049009108672802x3)⟩, ⟨(KH P q35), (.str q35 35), (.builtin SZ.s13935586738268321596x6)⟩, ⟨(KH P q36), (.str q36 36), (.builtin SZ.s8200498257699607233x3)⟩, ⟨(KH P q37), (.str q37 37), (.builtin SZ.s14114244577727609259x3)⟩, ⟨(KH P q38), (.str q38 38), (.builtin SZ.s1499430450269397089x4)⟩, ⟨(KH P q39), (.str q39 39), (.builtin SZ.s8755793994789770505x5)⟩, ⟨(KH P q40), (.str q40 40), (.builtin SZ.s15725212667919936108x3)⟩, ⟨(KH P q41), (.str q41 41), (.builtin SZ.s15791221867095933363x3)⟩, ⟨(KH P q42), (.str q42 42), (.builtin SZ.s81309575031448614x3)⟩, ⟨(KH P q43), (.str q43 43), (.builtin SZ.s8069831620301644142x5)⟩, ⟨(KH P q44), (.str q44 44), (.builtin SZ.s10061844253413749634x4)⟩, ⟨(KH P q45), (.str q45 45), (.builtin SZ.s9496514870978017513x5)⟩, ⟨(KH P q46), (.str q46 46), (.builtin SZ.s8899691144933366716x7)⟩, ⟨(KH P q47), (.str q47 47), (.builtin SZ.s15201008993051130160x6)⟩, ⟨(KH P q48), (.str q48 48), (.builtin SZ.s741896355592496720x3)⟩, ⟨(KH P q49), (.str q49 49), (.builtin SZ.s17925004256654032244x4)⟩, ⟨(KH P q50), (.str q50 50), .none⟩, ⟨(KH P q51), (.str q51 51), .ellipsis⟩, ⟨(KH P q52), (.str q52 52), .notImplemented⟩, ⟨(KH P q53), (.str q53 53), (.bool false)⟩, ⟨(KH P q54), (.str q54 54), (.bool true)⟩, ⟨(KH P q55), (.str q55 55), (.type SZ.s11695548795398191787x4)⟩, ⟨(KH P q56), (.str q56 56), (.type SZ.s4156966113859768872x10)⟩, ⟨(KH P q57), (.str q57 57), (.type SZ.s9501651726347032510x9)⟩, ⟨(KH P q58), (.str q58 58), (.type SZ.s15722918466584999320x5)⟩, ⟨(KH P q59), (.str q59 59), (.type SZ.s591115383303110208x11)⟩, ⟨(KH P q60), (.str q60 60), (.type SZ.s15721156781594690315x7)⟩, ⟨(KH P q61), (.str q61 61), (.type SZ.s14018661285674007319x4)⟩, ⟨(KH P q62), (.str q62 62), (.type SZ.s14340494229221121180x9)⟩, ⟨(KH P q63), (.str q63 63), (.type SZ.s13429844117177748173x6)⟩, ⟨(KH P q64), (.str q64 64), (.type SZ.s16463266125957815391x5)⟩, ⟨(KH P q65), (.str q65 65), (.type SZ.s4922535414793169389x9)⟩, ⟨(KH P q66), (.str q66 66), (.type SZ.s8101838861749082086x8)⟩, ⟨(KH P q67), (.str q67 67), (.type SZ.s7066276694103001551x3)⟩, ⟨(KH P q68), (.str q68 68), (.type SZ.s9222952809800978799x4)⟩, ⟨(KH P q69), (.str q69 69), (.type SZ.s462964344163437139x3)⟩, ⟨(KH P q70), (.str q70 70), (.type SZ.s2742458400755230247x6)⟩, ⟨(KH P q71), (.str q71 71), (.type SZ.s1438033511350832697x5)⟩, ⟨(KH P q72), (.str q72 72), (.type SZ.s14365286008749172514x8)⟩, ⟨(KH P q73), (.str q73 73), (.type SZ.s3642769012341782148x3)⟩, ⟨(KH P q74), (.str q74 74), (.type SZ.s4674234679698826739x5)⟩, ⟨(KH P q75), (.str q75 75), (.type SZ.s16656946322747308186x12)⟩, ⟨(KH P q76), (.str q76 76), (.type SZ.s10796804682411823810x3)⟩, ⟨(KH P q77), (.str q77 77), (.type SZ.s4290257624100764138x5)⟩, ⟨(KH P q78), (.str q78 78), (.type SZ.s2766695959194262286x5)⟩, ⟨(KH P q79), (.str q79 79), (.type SZ.s17162191345867700912x4)⟩, ⟨(KH P q80), (.str q80 80), (.type SZ.s14339709457334898076x3)⟩, ⟨(KH P q81), (.str q81 81), (.bool true)⟩, ⟨(KH P q82), (.str q82 82), (.type SZ.s4278001404047624695x13)⟩, ⟨(KH P q83), (.str q83 83), (.type SZ.s6585700554429387442x18)⟩, ⟨(KH P q84), (.str q84 84), (.type SZ.s5946037652744460706x9)⟩, ⟨(KH P q85), (.str q85 85), (.type SZ.s7410770068591931388x13)⟩, ⟨(KH P q86), (.str q86 86), (.type SZ.s11817881795495490833x17)⟩, ⟨(KH P q87), (.str q87 87), (.type SZ.s15679963881808890155x10)⟩, ⟨(KH P q88), (.str q88 88), (.type SZ.s3871700062485845797x15)⟩, ⟨(KH P q89), (.str q89 89), (.type SZ.s7689518266570723881x14)⟩, ⟨(KH P q90), (.str q90 90), (.type SZ.s9001593270443806431x14)⟩, ⟨(KH P q91), (.str q91 91), (.type SZ.s6882542574934516792x11)⟩, ⟨(KH P q92), (.str q92 92), (.type SZ.s14403400214490484960x8)⟩, ⟨(KH P q93), (.str q93 93), (.type SZ.s14457978657717015782x11)⟩, ⟨(KH P q94), (.str q94 94), (.type SZ.s1753610191782819921x11)⟩, ⟨(KH P q95), (.str q95 95), (.type SZ.s14119380538032626715x11)⟩, ⟨(KH P q96), (.str q96 96), (.type SZ.s11437920000406562045x9)⟩, ⟨(KH P q97), (.str q97 97), (.type SZ.s10852414792293593619x7)⟩, ⟨(KH P q98), (.str q98 98), (.type SZ.s14816307405966870543x14)⟩, ⟨(KH P q99), (.str q99 99), (.type SZ.s8682627914449686677x12)⟩, ⟨(KH P q100), (.str q100 100), (.type SZ.s4428170145600203450x18)⟩, ⟨(KH P q101), (.str q101 101), (.type SZ.s5991306692159431302x13)⟩, ⟨(KH P q102), (.str q102 102), (.type SZ.s16067994140765818257x11)⟩, ⟨(KH P q103), (.str q103 103), (.type SZ.s2327743974964600596x11)⟩, ⟨(KH P q104), (.str q104 104), (.type SZ.s2804747833354056582x9)⟩, ⟨(KH P q105), (.str q105 105), (.type SZ.s6070975301684473832x10)⟩, ⟨(KH P q106), (.str q106 106), (.type SZ.s14270485950484850486x7)⟩, ⟨(KH P q107), (.str q107 107), (.type SZ.s12041534306414923332x18)⟩, ⟨(KH P q108), (.str q108 108), (.type SZ.s2531307568338490285x13)⟩, ⟨(KH P q109), (.str q109 109), (.type SZ.s631175304937289666x17)⟩, ⟨(KH P q110), (.str q110 110), (.type SZ.s5144983644357021410x12)⟩, ⟨(KH P q111), (.str q111 111), (.type SZ.s18039099521571816885x18)⟩, ⟨(KH P q112), (.str q112 112), (.type SZ.s6011586214260557989x15)⟩, ⟨(KH P q113), (.str q113 113), (.type SZ.s5430567037509283100x13)⟩, ⟨(KH P q114), (.str q114 114), (.type SZ.s8117915138073963741x13)⟩, ⟨(KH P q115), (.str q115 115), (.type SZ.s3423317712779056401x25)⟩, ⟨(KH P q116), (.str q116 116), (.type SZ.s2007317383269046180x15)⟩, ⟨(KH P q117), (.str q117 117), (.type SZ.s17481586968713580700x14)⟩, ⟨(KH P q118), (.str q118 118), (.type SZ.s2450899226349176912x13)⟩, ⟨(KH P q119), (.str q119 119), (.type SZ.s16626165730633575011x14)⟩, ⟨(KH P q120), (.str q120 120), (.type SZ.s14288496050688921416x11)⟩, ⟨(KH P q121), (.str q121 121), (.type SZ.s5735081916595925998x15)⟩, ⟨(KH P q122), (.str q122 122), (.type SZ.s3865607918536308442x17)⟩, ⟨(KH P q123), (.str q123 123), (.type SZ.s13337502604062700212x15)⟩, ⟨(KH P q124), (.str q124 124), (.type SZ.s13114017843053701147x15)⟩, ⟨(KH P q125), (.str q125 125), (.type SZ.s17467278006356818441x17)⟩, ⟨(KH P q126), (.str q126 126), (.type SZ.s17722149559621369488x16)⟩, ⟨(KH P q127), (.str q127 127), (.type SZ.s7855274175708717672x17)⟩, ⟨(KH P q128), (.str q128 128), (.type SZ.s13351283678309829046x18)⟩, ⟨(KH P q129), (.str q129 129), (.type SZ.s6668348653404991179x15)⟩, ⟨(KH P q130), (.str q130 130), (.type SZ.s12913350958174193794x18)⟩, ⟨(KH P q131), (.str q131 131), (.type SZ.s16115879512475548326x12)⟩, ⟨(KH P q132), (.str q132 132), (.type SZ.s15920661018069861047x16)⟩, ⟨(KH P q133), (.str q133 133), (.type SZ.s10779130036587390575x21)⟩, ⟨(KH P q134), (.str q134 134), (.type SZ.s7801419657504700863x10)⟩, ⟨(KH P q135), (.str q135 135), (.type SZ.s1688129525768580628x8)⟩, ⟨(KH P q136), (.str q136 136), (.type SZ.s1031832959479892071x19)⟩, ⟨(KH P q137), (.str q137 137), (.type SZ.s8991790508128307865x19)⟩, ⟨(KH P q138), (.str q138 138), (.type SZ.s14539662485746970245x23)⟩, ⟨(KH P q139), (.str q139 139), (.type SZ.s11643622729373238714x14)⟩, ⟨(KH P q140), (.str q140 140), (.type SZ.s3386828779285465597x17)⟩, ⟨(KH P q141), (.str q141 141), (.type SZ.s13042696260734638735x12)⟩, ⟨(KH P q142), (.str q142 142), (.type SZ.s18239426817015966623x15)⟩, ⟨(KH P q143), (.str q143 143), (.type SZ.s1270395311379034370x22)⟩, ⟨(KH P q144), (.str q144 144), (.type SZ.s10696252587037064777x22)⟩, ⟨(KH P q145), (.str q145 145), (.type SZ.s7852717498200857586x20)⟩, ⟨(KH P q146), (.str q146 146), (.type SZ.s6377248116197321094x8)⟩, ⟨(KH P q147), (.str q147 147), (.type SZ.s3834378056692298002x18)⟩, ⟨(KH P q148), (.str q148 148), (.type SZ.s17586630440231065808x18)⟩, ⟨(KH P q149), (.str q149 149), (.type SZ.s15234114252648025395x21)⟩, ⟨(KH P q150), (.str q150 150), (.type SZ.s8496462677383758984x14)⟩, ⟨(KH P q151), (.str q151 151), (.type SZ.s10852414792293593619x7)⟩, ⟨(KH P q152), (.str q152 152), (.type SZ.s10852414792293593619x7)⟩, ⟨(KH P q153), (.str q153 153), (.builtin SZ.s16789243406116112673x4)⟩, ⟨(KH P q154), (.str q154 154), (.builtin SZ.s14400166428656793546x20)⟩, ⟨(KH P q155), (.str q155 155), (.builtin SZ.s5857708277339239366x20)⟩, ⟨(KH P q156), (.str q156 156), (.builtin "builtins.copyright#opaque")⟩, ⟨(KH P q157), (.str q157 157), (.builtin "builtins.credits#opaque")⟩, ⟨(KH P q158), (.str q158 158), (.builtin "builtins.license#opaque")⟩, ⟨(KH P q159), (.str q159 159), (.builtin SZ.s7804999707787243718x20)⟩] 159), #[]⟩
noncomputable def zo2 (P : Params) : Obj := ⟨(.type SZ.s14018661285674007319x4), none, (.dict #[⟨(KH P q1), (.str q1 162), (.ref 4)⟩, ⟨(KH P q160), (.str q160 163), (.ref 5)⟩] 2), #[]⟩
noncomputable def zo3 (P : Params) : Obj := ⟨.none, none, (.dict #[⟨(KH P q161), (.str q161 219), (.int (.ofNat 34) 0)⟩, ⟨(KH P q162), (.str q162 220), (.int (.ofNat 1) 0)⟩] 2), #[]⟩
noncomputable def zo4 (P : Params) : Obj := ⟨(.type SZ.s14018661285674007319x4), none, (.dict #[⟨(KH P q0), (.str q0 165), (.str q163 521)⟩, ⟨(KH P q2), (.str q2 166), .none⟩, ⟨(KH P q3), (.str q3 167), .none⟩, ⟨(KH P q4), (.str q4 168), (.builtin SZ.s7097527257260152453x26)⟩, ⟨(KH P q5), (.str q5 169), .none⟩, ⟨(KH P q164), (.str q164 170), (.ref 6)⟩, ⟨(KH P q165), (.str q165 171), (.ref 4)⟩, ⟨(KH P q166), (.str q166 173), (.str q167 172)⟩, ⟨(KH P q168), (.str q168 174), .none⟩, ⟨(KH P q169), (.str q169 222), (.ref 34)⟩, ⟨(KH P q170), (.str q170 226), (.int (.ofNat 15) 225)⟩, ⟨(KH P q171), (.str q171 228), (.int (.ofNat 30) 227)⟩, ⟨(KH P q172), (.str q172 230), (.int (.ofNat 255) 229)⟩, ⟨(KH P q173), (.str q173 232), (.str q174 231)⟩, ⟨(KH P q175), (.str q175 238), (.ref 42)⟩, ⟨(KH P q176), (.str q176 251), (.ref 49)⟩, ⟨(KH P q177), (.str q177 262), (.ref 56)⟩, ⟨(KH P q178), (.str q178 272), (.ref 63)⟩, ⟨(KH P q179), (.str q179 281), (.ref 70)⟩, ⟨(KH P q180), (.str q180 289), (.ref 77)⟩, ⟨(KH P q181), (.str q181 295), (.ref 82)⟩, ⟨(KH P q182), (.str q182 301), (.ref 87)⟩, ⟨(KH P q183), (.str q183 311), (.ref 94)⟩, ⟨(KH P q184), (.str q184 320), (.ref 101)⟩, ⟨(KH P q185), (.str q185 329), (.ref 108)⟩, ⟨(KH P q186), (.str q186 339), (.ref 115)⟩, ⟨(KH P q187), (.str q187 350), (.ref 122)⟩, ⟨(KH P q188), (.str q188 360), (.ref 129)⟩, ⟨(KH P q189), (.str q189 370), (.ref 136)⟩, ⟨(KH P q190), (.str q190 379), (.ref 143)⟩, ⟨(KH P q191), (.str q191 388), (.ref 150)⟩, ⟨(KH P q192), (.str q192 394), (.ref 155)⟩, ⟨(KH P q193), (.str q193 404), (.ref 162)⟩, ⟨(KH P q194), (.str q194 418), (.ref 169)⟩, ⟨(KH P q195), (.str q195 426), (.ref 176)⟩, ⟨(KH P q196), (.str q196 439), (.ref 183)⟩, ⟨(KH P q197), (.str q197 453), (.ref 190)⟩, ⟨(KH P q198), (.str q198 520), (.ref 208)⟩, ⟨(KH P q199), (.str q199 532), (.ref 219)⟩, ⟨(KH P q200), (.str q200 539), (.ref 226)⟩, ⟨(KH P q201), (.str q201 547), (.ref 233)⟩, ⟨(KH P q202), (.str q202 555), (.ref 240)⟩, ⟨(KH P q203), (.str q203 563), (.ref 247)⟩, ⟨(KH P q204), (.str q204 569), (.ref 252)⟩, ⟨(KH P q205), (.str q205 577), (.ref 259)⟩, ⟨(KH P q206), (.str q206 592), (.ref 266)⟩] 46), #[]⟩
noncomputable def zo5 (_ : Params) : Obj := ⟨(.type SZ.s6658869562736209489x6), (some 0), .plain, #[]⟩
noncomputable def zo6 (_ : Params) : Obj := ⟨(.type SZ.s6658869562736209489x6), (some 3), .plain, #[]⟩
noncomputable def zo7 (_ : Params) : Obj := ⟨(.type SZ.s14018661285674007319x4), none, (.dict #[] 0), #[]⟩
noncomputable def zo8 (_ : Params) : Obj := ⟨(.type SZ.s2766695959194262286x5), none, (.seq #[] 0), #[]⟩
noncomputable def zo9 (_ : Params) : Obj := ⟨.none, none, (.fields #[]), #[]⟩
noncomputable def zo10 (_ : Params) : Obj := ⟨(.type SZ.s5856160107412720595x4), none, (.fields #[(.str q207 176), (.str q207 177), (.str q167 178), (.int (.ofNat 1) 0), (.int (.ofNat 0) 0), (.int (.ofNat 0) 0), (.int (.ofNat 0) 0), (.int (.ofNat 0) 0), (.ref 7), (.bool false), (.int (.ofNat 175) 0), (.ref 8), .none, .none, .none, .none, (.int (.ofNat 179) 0), (.int (.ofNat 1) 0), (.str q167 180)]), #[]⟩
noncomputable def zo11 (_ : Params) : Obj := ⟨(.type SZ.s658472552662922059x5), none, .plain, #[(some (.ref 9)), (some (.ref 3)), (some (.ref 3)), none, (some (.str q160 164)), none, (some (.ref 0))]⟩
noncomputable def zo12 (_ : Params) : Obj := ⟨(.type SZ.s2766695959194262286x5), none, (.seq #[] 0), #[]⟩
noncomputable def zo13 (_ : Params) : Obj := ⟨.none, none, (.fields #[(.int (.ofNat 2) 0), (.int (.ofNat 0) 0), (.ref 21), (.int (.ofNat 13) 0), (.int (.ofNat 0) 0), (.ref 41), (.int (.ofNat 17) 0), (.int (.ofNat 0) 0), (.ref 48), (.int (.ofNat 34) 0), (.int (.ofNat 0) 0), (.ref 55), (.int (.ofNat 40) 0), (.int (.ofNat 0) 0), (.ref 62), (.int (.ofNat 47) 0), (.int (.ofNat 0) 0), (.ref 69), (.int (.ofNat 53) 0), (.int (.ofNat 0) 0), (.ref 76), (.int (.ofNat 56) 0), (.int (.ofNat 0) 0), (.ref 81), (.int (.ofNat 62) 0), (.int (.ofNat 0) 0), (.ref 86), (.int (.ofNat 70) 0), (.int (.ofNat 0) 0), (.ref 93), (.int (.ofNat 74) 0), (.int (.ofNat 0) 0), (.ref 100), (.int (.ofNat 76) 0), (.int (.ofNat 0) 0), (.ref 107), (.int (.ofNat 79) 0), (.int (.ofNat 0) 0), (.ref 114), (.int (.ofNat 82) 0), (.int (.ofNat 0) 0), (.ref 121), (.int (.ofNat 90) 0), (.int (.ofNat 0) 0), (.ref 128), (.int (.ofNat 96) 0), (.int (.ofNat 0) 0), (.ref 135), (.int (.ofNat 100) 0), (.int (.ofNat 0) 0), (.ref 142), (.int (.ofNat 103) 0), (.int (.ofNat 0) 0), (.ref 149), (.int (.ofNat 106) 0), (.int (.ofNat 0) 0), (.ref 154), (.int (.ofNat 116) 0), (.int (.ofNat 0) 0), (.ref 161), (.int (.ofNat 120) 0), (.int (.ofNat 0) 0), (.ref 168), (.int (.ofNat 124) 0), (.int (.ofNat 0) 0), (.ref 175), (.int (.ofNat 129) 0), (.int (.ofNat 0) 0), (.ref 182), (.int (.ofNat 137) 0), (.int (.ofNat 0) 0), (.ref 189), (.int (.ofNat 147) 0), (.int (.ofNat 0) 0), (.ref 196), (.int (.ofNat 179) 0), (.int (.ofNat 0) 0), (.ref 218), (.int (.ofNat 185) 0), (.int (.ofNat 0) 0), (.ref 225), (.int (.ofNat 196) 0), (.int (.ofNat 0) 0), (.ref 232), (.int (.ofNat 214) 0), (.int (.ofNat 0) 0), (.ref 239), (.int (.ofNat 233) 0), (.int (.ofNat 0) 0), (.ref 246), (.int (.ofNat 248) 0), (.int (.ofNat 0) 0), (.ref 251), (.int (.ofNat 251) 0), (.int (.ofNat 0) 0), (.ref 258), (.int (.ofNat 257) 0), (.int (.ofNat 0) 0), (.ref 265)]), #[]⟩
noncomputable def zo14 (_ : Params) : Obj := ⟨(.type SZ.s5856160107412720595x4), none, (.fields #[(.str q207 182), (.str q207 183), (.str q167 184), (.int (.ofNat 1) 0), (.int (.ofNat 0) 0), (.int (.ofNat 0) 0), (.int (.ofNat 0) 0), (.int (.ofNat 0) 0), (.ref 11), (.bool false), (.int (.ofNat 181) 0), (.ref 12), .none, .none, .none, .none, (.int (.ofNat 185) 0), (.int (.ofNat 1) 0), (.str q167 186)]), #[]⟩
noncomputable def zo15 (_ : Params) : Obj := ⟨(.type SZ.s658472552662922059x5), none, .plain, #[(some (.ref 13)), (some (.ref 3)), (some (.ref 3)), none, (some (.str q160 164)), none, (some (.ref 0))]⟩
noncomputable def zo16 (_ : Params) : Obj := ⟨(.type SZ.s2766695959194262286x5), none, (.seq #[(.type SZ.s5946037652744460706x9)] 0), #[]⟩
noncomputable def zo17 (_ : Params) : Obj := ⟨(.type SZ.s15660640913423913556x4), none, (.cell (some (.ref 34))), #[]⟩
noncomputable def zo18 (_ : Params) : Obj := ⟨(.type SZ.s2766695959194262286x5), none, (.seq #[(.str q208 201)] 0), #[]⟩
noncomputable def zo19 (_ : Params) : Obj := ⟨(.type SZ.s2766695959194262286x5), none, (.seq #[(.ref 18)] 0), #[]⟩
noncomputable def zo20 (_ : Params) : Obj := ⟨(.type SZ.s2766695959194262286x5), none, (.seq #[(.str q209 205)] 0), #[]⟩
noncomputable def zo21 (_ : Params) : Obj := ⟨.none, none, (.fields #[]), #[]⟩
noncomputable def zo22 (_ : Params) : Obj := ⟨(.type SZ.s2766695959194262286x5), none, (.seq #[(.str q210 206), (.str q211 207), (.str q212 208)] 0), #[]⟩
noncomputable def zo23 (_ : Params) : Obj := ⟨(.type SZ.s2766695959194262286x5), none, (.seq #[] 0), #[]⟩
noncomputable def zo24 (_ : Params) : Obj := ⟨.none, none, (.func ⟨q213, q214, fpI, fbI, fcI, 0, [], .none, .none, .none, .none, none, .none, .none, 0⟩), #[]⟩
noncomputable def zo25 (_ : Params) : Obj := ⟨(.type SZ.s5856160107412720595x4), none, (.fields #[(.str q213 202), (.str q214 203), (.str q167 204), (.int (.ofNat 4) 0), (.int (.ofNat 3) 0), (.int (.ofNat 0) 0), (.int (.ofNat 0) 0), (.int (.ofNat 3) 0), (.ref 25), (.bool true), (.int (.ofNat 181) 0), (.ref 26), .none, (.ref 27), (.ref 28), (.ref 29), (.int (.ofNat 209) 0), (.int (.ofNat 4) 0), (.str q167 210)]), #[]⟩
noncomputable def zo26 (_ : Params) : Obj := ⟨(.type SZ.s7174869446012820540x8), none, (.func ⟨q213, q214, fpI, fbI, fcI, 3, [(q209, 18)], (.ref 23), .none, .none, (.str q215 187), none, (.ref 30), (.ref 24), 0⟩), #[]⟩
noncomputable def zo27 (_ : Params) : Obj := ⟨(.type SZ.s2766695959194262286x5), none, (.seq #[(.str q211 212), (.str q212 213)] 0), #[]⟩
noncomputable def zo28 (P : Params) : Obj := ⟨(.type SZ.s14018661285674007319x4), none, (.dict #[⟨(KH P q216), (.str q216 196), (.str q215 187)⟩, ⟨(KH P q217), (.str q217 200), (.int (.ofNat 2) 199)⟩, ⟨(KH P q213), (.str q213 211), (.ref 31)⟩, ⟨(KH P q218), (.str q218 214), (.ref 32)⟩, ⟨(KH P q219), (.str q219 217), (.ref 35)⟩, ⟨(KH P q2), (.str q2 218), .none⟩] 4), #[]⟩
noncomputable def zo29 (_ : Params) : Obj := ⟨(.type SZ.s17162191345867700912x4), none, (.cls ⟨q169, [(.type SZ.s5946037652744460706x9)], [(.ref 34), (.type SZ.s5946037652744460706x9), (.type SZ.s4278001404047624695x13), (.type SZ.s2742458400755230247x6)], 33, q169, true, [], [], false, none, false⟩), #[(some (.ref 15)), none, (some (.str q169 189)), (some (.str q169 197)), (some (.builtin SZ.s5160863994218179198x17)), (some (.bool true))]⟩
noncomputable def zo30 (_ : Params) : Obj := ⟨(.type SZ.s14755015743595814543x17), none, (.fields #[(.str q219 216), (.ref 34), (.builtin SZ.s10220274742760427390x26), .none]), #[]⟩
noncomputable def zo31 (_ : Params) : Obj := ⟨(.type SZ.s2766695959194262286x5), none, (.seq #[] 0), #[]⟩
noncomputable def zo32 (_ : Params) : Obj := ⟨.none, none, (.fields #[]), #[]⟩
noncomputable def zo33 (_ : Params) : Obj := ⟨.none, none, (.func ⟨q175, q175, fp7, fb7, fc7, 0, [], .none, .none, .none, .none, none, .none, .none, 0⟩), #[]⟩
noncomputable def zo34 (_ : Params) : Obj := ⟨(.type SZ.s5856160107412720595x4), none, (.fields #[(.str q175 233), (.str q175 234), (.str q167 235), (.int (.ofNat 13) 0), (.int (.ofNat 1) 0), (.int (.ofNat 0) 0), (.int (.ofNat 0) 0), (.int (.ofNat 3) 0), (.ref 38), (.bool true), (.int (.ofNat 181) 0), (.ref 39), .none, .none, .none, (.ref 40), (.int (.ofNat 236) 0), (.int (.ofNat 13) 0), (.str q167 237)]), #[]⟩
noncomputable def zo35 (_ : Params) : Obj := ⟨(.type SZ.s7174869446012820540x8), none, (.func ⟨q175, q175, fp7, fb7, fc7, 3, [], .none, .none, .none, (.str q220 223), none, (.ref 41), .none, 0⟩), #[]⟩
noncomputable def zo36 (_ : Params) : Obj := ⟨(.type SZ.s2766695959194262286x5), none, (.seq #[] 0), #[]⟩
noncomputable def zo37 (_ : Params) : Obj := ⟨.none, none, (.fields #[]), #[]⟩
noncomputable def zo38 (_ : Params) : Obj := ⟨(.type SZ.s2766695959194262286x5), none, (.seq #[(.str q221 242), (.str q222 243), (.str q223 244), (.str q224 245), (.str q225 246), (.str q226 247), (.str q227 248)] 0), #[]⟩
noncomputable def zo39 (_ : Params) : Obj := ⟨(.type SZ.s2766695959194262286x5), none, (.seq #[] 0), #[]⟩
noncomputable def zo40 (_ : Params) : Obj := ⟨.none, none, (.func ⟨q176, q176, fp8, fb8, fc8, 0, [], .none, .none, .none, .none, none, .none, .none, 0⟩), #[]⟩
noncomputable def zo41 (_ : Params) : Obj := ⟨(.type SZ.s5856160107412720595x4), none, (.fields #[(.str q176 239), (.str q176 240), (.str q167 241), (.int (.ofNat 17) 0), (.int (.ofNat 5) 0), (.int (.ofNat 0) 0), (.int (.ofNat 0) 0), (.int (.ofNat 3) 0), (.ref 43), (.bool true), (.int (.ofNat 181) 0), (.ref 44), .none, (.ref 45), (.ref 46), (.ref 47), (.int (.ofNat 249) 0), (.int (.ofNat 17) 0), (.str q167 250)]), #[]⟩
noncomputable def zo42 (_ : Params) : Obj := ⟨(.type SZ.s7174869446012820540x8), none, (.func ⟨q176, q176, fp8, fb8, fc8, 3, [], .none, .none, .none, (.str q220 223), none, (.ref 48), .none, 0⟩), #[]⟩
noncomputable def zo43 (_ : Params) : Obj := ⟨(.type SZ.s2766695959194262286x5), none, (.seq #[] 0), #[]⟩
noncomputable def zo44 (_ : Params) : Obj := ⟨.none, none, (.fields #[]), #[]⟩
noncomputable def zo45 (_ : Params) : Obj := ⟨(.type SZ.s2766695959194262286x5), none, (.seq #[(.str q221 255), (.str q222 256), (.str q224 257), (.str q223 258), (.str q228 259)] 0), #[]⟩
noncomputable def zo46 (_ : Params) : Obj := ⟨(.type SZ.s2766695959194262286x5), none, (.seq #[] 0), #[]⟩
noncomputable def zo47 (_ : Params) : Obj := ⟨.none, none, (.func ⟨q177, q177, fp9, fb9, fc9, 0, [], .none, .none, .none, .none, none, .none, .none, 0⟩), #[]⟩
noncomputable def zo48 (_ : Params) : Obj := ⟨(.type SZ.s5856160107412720595x4), none, (.fields #[(.str q177 252), (.str q177 253), (.str q167 254), (.int (.ofNat 34) 0), (.int (.ofNat 3) 0), (.int (.ofNat 0) 0), (.int (.ofNat 0) 0), (.int (.ofNat 3) 0), (.ref 50), (.bool true), (.int (.ofNat 181) 0), (.ref 51), .none, (.ref 52), (.ref 53), (.ref 54), (.int (.ofNat 260) 0), (.int (.ofNat 34) 0), (.str q167 261)]), #[]⟩
noncomputable def zo49 (_ : Params) : Obj := ⟨(.type SZ.s7174869446012820540x8), none, (.func ⟨q177, q177, fp9, fb9, fc9, 3, [], .none, .none, .none, (.str q220 223), none, (.ref 55), .none, 0⟩), #[]⟩
noncomputable def zo50 (_ : Params) : Obj := ⟨(.type SZ.s2766695959194262286x5), none, (.seq #[] 0), #[]⟩
noncomputable def zo51 (_ : Params) : Obj := ⟨.none, none, (.fields #[]), #[]⟩
noncomputable def zo52 (_ : Params) : Obj := ⟨(.type SZ.s2766695959194262286x5), none, (.seq #[(.str q221 266), (.str q223 267), (.str q229 268), (.str q230 269)] 0), #[]⟩
noncomputable def zo53 (_ : Params) : Obj := ⟨(.type SZ.s2766695959194262286x5), none, (.seq #[] 0), #[]⟩
noncomputable def zo54 (_ : Params) : Obj := ⟨.none, none, (.func ⟨q178, q178, fp10, fb10, fc10, 0, [], .none, .none, .none, .none, none, .none, .none, 0⟩), #[]⟩
noncomputable def zo55 (_ : Params) : Obj := ⟨(.type SZ.s5856160107412720595x4), none, (.fields #[(.str q178 263), (.str q178 264), (.str q167 265), (.int (.ofNat 40) 0), (.int (.ofNat 3) 0), (.int (.ofNat 0) 0), (.int (.ofNat 0) 0), (.int (.ofNat 3) 0), (.ref 57), (.bool true), (.int (.ofNat 181) 0), (.ref 58), .none, (.ref 59), (.ref 60), (.ref 61), (.int (.ofNat 270) 0), (.int (.ofNat 40) 0), (.str q167 271)]), #[]⟩
noncomputable def zo56 (_ : Params) : Obj := ⟨(.type SZ.s7174869446012820540x8), none, (.func ⟨q178, q178, fp10, fb10, fc10, 3, [], .none, .none, .none, (.str q220 223), none, (.ref 62), .none, 0⟩), #[]⟩
noncomputable def zo57 (_ : Params) : Obj := ⟨(.type SZ.s2766695959194262286x5), none, (.seq #[] 0), #[]⟩
noncomputable def zo58 (_ : Params) : Obj := ⟨.none, none, (.fields #[]), #[]⟩
noncomputable def zo59 (_ : Params) : Obj := ⟨(.type SZ.s2766695959194262286x5), none, (.seq #[(.str q221 276), (.str q223 277), (.str q224 278)] 0), #[]⟩
noncomputable def zo60 (_ : Params) : Obj := ⟨(.type SZ.s2766695959194262286x5), none, (.seq #[] 0), #[]⟩
noncomputable def zo61 (_ : Params) : Obj := ⟨.none, none, (.func ⟨q179, q179, fp11, fb11, fc11, 0, [], .none, .none, .none, .none, none, .none, .none, 0⟩), #[]⟩
noncomputable def zo62 (_ : Params) : Obj := ⟨(.type SZ.s5856160107412720595x4), none, (.fields #[(.str q179 273), (.str q179 274), (.str q167 275), (.int (.ofNat 47) 0), (.int (.ofNat 2) 0), (.int (.ofNat 0) 0), (.int (.ofNat 0) 0), (.int (.ofNat 3) 0), (.ref 64), (.bool true), (.int (.ofNat 181) 0), (.ref 65), .none, (.ref 66), (.ref 67), (.ref 68), (.int (.ofNat 279) 0), (.int (.ofNat 47) 0), (.str q167 280)]), #[]⟩
noncomputable def zo63 (_ : Params) : Obj := ⟨(.type SZ.s7174869446012820540x8), none, (.func ⟨q179, q179, fp11, fb11, fc11, 3, [], .none, .none, .none, (.str q220 223), none, (.ref 69), .none, 0⟩), #[]⟩
noncomputable def zo64 (_ : Params) : Obj := ⟨(.type SZ.s2766695959194262286x5), none, (.seq #[] 0), #[]⟩
noncomputable def zo65 (_ : Params) : Obj := ⟨.none, none, (.fields #[]), #[]⟩
noncomputable def zo66 (_ : Params) : Obj := ⟨(.type SZ.s2766695959194262286x5), none, (.seq #[(.str q221 285), (.str q223 286)] 0), #[]⟩
noncomputable def zo67 (_ : Params) : Obj := ⟨(.type SZ.s2766695959194262286x5), none, (.seq #[] 0), #[]⟩
noncomputable def zo68 (_ : Params) : Obj := ⟨.none, none, (.func ⟨q180, q180, fp12, fb12, fc12, 0, [], .none, .none, .none, .none, none, .none, .none, 0⟩), #[]⟩
noncomputable def zo69 (_ : Params) : Obj := ⟨(.type SZ.s5856160107412720595x4), none, (.fields #[(.str q180 282), (.str q180 283), (.str q167 284), (.int (.ofNat 53) 0), (.int (.ofNat 1) 0), (.int (.ofNat 0) 0), (.int (.ofNat 0) 0), (.int (.ofNat 3) 0), (.ref 71), (.bool true), (.int (.ofNat 181) 0), (.ref 72), .none, (.ref 73), (.ref 74), (.ref 75), (.int (.ofNat 287) 0), (.int (.ofNat 53) 0), (.str q167 288)]), #[]⟩
noncomputable def zo70 (_ : Params) : Obj := ⟨(.type SZ.s7174869446012820540x8), none, (.func ⟨q180, q180, fp12, fb12, fc12, 3, [], .none, .none, .none, (.str q220 223), none, (.ref 76), .none, 0⟩), #[]⟩
noncomputable def zo71 (_ : Params) : Obj := ⟨(.type SZ.s2766695959194262286x5), none, (.seq #[] 0), #[]⟩
noncomputable def zo72 (_ : Params) : Obj := ⟨.none, none, (.fields #[]), #[]⟩
noncomputable def zo73 (_ : Params) : Obj := ⟨.none, none, (.func ⟨q181, q181, fp13, fb13, fc13, 0, [], .none, .none, .none, .none, none, .none, .none, 0⟩), #[]⟩
noncomputable def zo74 (_ : Params) : Obj := ⟨(.type SZ.s5856160107412720595x4), none, (.fields #[(.str q181 290), (.str q181 291), (.str q167 292), (.int (.ofNat 56) 0), (.int (.ofNat 2) 0), (.int (.ofNat 0) 0), (.int (.ofNat 0) 0), (.int (.ofNat 3) 0), (.ref 78), (.bool true), (.int (.ofNat 181) 0), (.ref 79), .none, .none, .none, (.ref 80), (.int (.ofNat 293) 0), (.int (.ofNat 56) 0), (.str q167 294)]), #[]⟩
noncomputable def zo75 (_ : Params) : Obj := ⟨(.type SZ.s7174869446012820540x8), none, (.func ⟨q181, q181, fp13, fb13, fc13, 3, [], .none, .none, .none, (.str q220 223), none, (.ref 81), .none, 0⟩), #[]⟩
noncomputable def zo76 (_ : Params) : Obj := ⟨(.type SZ.s2766695959194262286x5), none, (.seq #[] 0), #[]⟩
noncomputable def zo77 (_ : Params) : Obj := ⟨.none, none, (.fields #[]), #[]⟩
noncomputable def zo78 (_ : Params) : Obj := ⟨.none, none, (.func ⟨q182, q182, fp14, fb14, fc14, 0, [], .none, .none, .none, .none, none, .none, .none, 0⟩), #[]⟩
noncomputable def zo79 (_ : Params) : Obj := ⟨(.type SZ.s5856160107412720595x4), none, (.fields #[(.str q182 296), (.str q182 297), (.str q167 298), (.int (.ofNat 62) 0), (.int (.ofNat 3) 0), (.int (.ofNat 0) 0), (.int (.ofNat 0) 0), (.int (.ofNat 3) 0), (.ref 83), (.bool true), (.int (.ofNat 181) 0), (.ref 84), .none, .none, .none, (.ref 85), (.int (.ofNat 299) 0), (.int (.ofNat 62) 0), (.str q167 300)]), #[]⟩
noncomputable def zo80 (_ : Params) : Obj := ⟨(.type SZ.s7174869446012820540x8), none, (.func ⟨q182, q182, fp14, fb14, fc14, 3, [], .none, .none, .none, (.str q220 223), none, (.ref 86), .none, 0⟩), #[]⟩
noncomputable def zo81 (_ : Params) : Obj := ⟨(.type SZ.s2766695959194262286x5), none, (.seq #[] 0), #[]⟩
noncomputable def zo82 (_ : Params) : Obj := ⟨.none, none, (.fields #[]), #[]⟩
noncomputable def zo83 (_ : Params) : Obj := ⟨(.type SZ.s2766695959194262286x5), none, (.seq #[(.str q221 305), (.str q223 306), (.str q231 307), (.str q230 308)] 0), #[]⟩
noncomputable def zo84 (_ : Params) : Obj := ⟨(.type SZ.s2766695959194262286x5), none, (.seq #[] 0), #[]⟩
noncomputable def zo85 (_ : Params) : Obj := ⟨.none, none, (.func ⟨q183, q183, fp15, fb15, fc15, 0, [], .none, .none, .none, .none, none, .none, .none, 0⟩), #[]⟩
noncomputable def zo86 (_ : Params) : Obj := ⟨(.type SZ.s5856160107412720595x4), none, (.fields #[(.str q183 302), (.str q183 303), (.str q167 304), (.int (.ofNat 70) 0), (.int (.ofNat 3) 0), (.int (.ofNat 0) 0), (.int (.ofNat 0) 0), (.int (.ofNat 3) 0), (.ref 88), (.bool true), (.int (.ofNat 181) 0), (.ref 89), .none, (.ref 90), (.ref 91), (.ref 92), (.int (.ofNat 309) 0), (.int (.ofNat 70) 0), (.str q167 310)]), #[]⟩
noncomputable def zo87 (_ : Params) : Obj := ⟨(.type SZ.s7174869446012820540x8), none, (.func ⟨q183, q183, fp15, fb15, fc15, 3, [], .none, .none, .none, (.str q220 223), none, (.ref 93), .none, 0⟩), #[]⟩
noncomputable def zo88 (_ : Params) : Obj := ⟨(.type SZ.s2766695959194262286x5), none, (.seq #[] 0), #[]⟩
noncomputable def zo89 (_ : Params) : Obj := ⟨.none, none, (.fields #[]), #[]⟩
noncomputable def zo90 (_ : Params) : Obj := ⟨(.type SZ.s2766695959194262286x5), none, (.seq #[(.str q221 315), (.str q223 316), (.str q231 317)] 0), #[]⟩
noncomputable def zo91 (_ : Params) : Obj := ⟨(.type SZ.s2766695959194262286x5), none, (.seq #[] 0), #[]⟩
noncomputable def zo92 (_ : Params) : Obj := ⟨.none, none, (.func ⟨q184, q184, fp16, fb16, fc16, 0, [], .none, .none, .none, .none, none, .none, .none, 0⟩), #[]⟩
noncomputable def zo93 (_ : Params) : Obj := ⟨(.type SZ.s5856160107412720595x4), none, (.fields #[(.str q184 312), (.str q184 313), (.str q167 314), (.int (.ofNat 74) 0), (.int (.ofNat 3) 0), (.int (.ofNat 0) 0), (.int (.ofNat 0) 0), (.int (.ofNat 3) 0), (.ref 95), (.bool true), (.int (.ofNat 181) 0), (.ref 96), .none, (.ref 97), (.ref 98), (.ref 99), (.int (.ofNat 318) 0), (.int (.ofNat 74) 0), (.str q167 319)]), #[]⟩
noncomputable def zo94 (_ : Params) : Obj := ⟨(.type SZ.s7174869446012820540x8), none, (.func ⟨q184, q184, fp16, fb16, fc16, 3, [], .none, .none, .none, (.str q220 223), none, (.ref 100), .none, 0⟩), #[]⟩
noncomputable def zo95 (_ : Params) : Obj := ⟨(.type SZ.s2766695959194262286x5), none, (.seq #[] 0), #[]⟩
noncomputable def zo96 (_ : Params) : Obj := ⟨.none, none, (.fields #[]), #[]⟩
noncomputable def zo97 (_ : Params) : Obj := ⟨(.type SZ.s2766695959194262286x5), none, (.seq #[(.str q221 324), (.str q223 325), (.str q230 326)] 0), #[]⟩
noncomputable def zo98 (_ : Params) : Obj := ⟨(.type SZ.s2766695959194262286x5), none, (.seq #[] 0), #[]⟩
noncomputable def zo99 (_ : Params) : Obj := ⟨.none, none, (.func ⟨q185, q185, fp17, fb17, fc17, 0, [], .none, .none, .none, .none, none, .none, .none, 0⟩), #[]⟩
noncomputable def zo100 (_ : Params) : Obj := ⟨(.type SZ.s5856160107412720595x4), none, (.fields #[(.str q185 321), (.str q185 322), (.str q167 323), (.int (.ofNat 76) 0), (.int (.ofNat 2) 0), (.int (.ofNat 0) 0), (.int (.ofNat 0) 0), (.int (.ofNat 3) 0), (.ref 102), (.bool true), (.int (.ofNat 181) 0), (.ref 103), .none, (.ref 104), (.ref 105), (.ref 106), (.int (.ofNat 327) 0), (.int (.ofNat 76) 0), (.str q167 328)]), #[]⟩
noncomputable def zo101 (_ : Params) : Obj := ⟨(.type SZ.s7174869446012820540x8), none, (.func ⟨q185, q185, fp17, fb17, fc17, 3, [], .none, .none, .none, (.str q220 223), none, (.ref 107), .none, 0⟩), #[]⟩
noncomputable def zo102 (_ : Params) : Obj := ⟨(.type SZ.s2766695959194262286x5), none, (.seq #[] 0), #[]⟩
noncomputable def zo103 (_ : Params) : Obj := ⟨.none, none, (.fields #[]), #[]⟩
noncomputable def zo104 (_ : Params) : Obj := ⟨(.type SZ.s2766695959194262286x5), none, (.seq #[(.str q221 333), (.str q223 334), (.str q232 335), (.str q230 336)] 0), #[]⟩
noncomputable def zo105 (_ : Params) : Obj := ⟨(.type SZ.s2766695959194262286x5), none, (.seq #[] 0), #[]⟩
noncomputable def zo106 (_ : Params) : Obj := ⟨.none, none, (.func ⟨q186, q186, fp18, fb18, fc18, 0, [], .none, .none, .none, .none, none, .none, .none, 0⟩), #[]⟩
noncomputable def zo107 (_ : Params) : Obj := ⟨(.type SZ.s5856160107412720595x4), none, (.fields #[(.str q186 330), (.str q186 331), (.str q167 332), (.int (.ofNat 79) 0), (.int (.ofNat 3) 0), (.int (.ofNat 0) 0), (.int (.ofNat 0) 0), (.int (.ofNat 3) 0), (.ref 109), (.bool true), (.int (.ofNat 181) 0), (.ref 110), .none, (.ref 111), (.ref 112), (.ref 113), (.int (.ofNat 337) 0), (.int (.ofNat 79) 0), (.str q167 338)]), #[]⟩
noncomputable def zo108 (_ : Params) : Obj := ⟨(.type SZ.s7174869446012820540x8), none, (.func ⟨q186, q186, fp18, fb18, fc18, 3, [], .none, .none, .none, (.str q220 223), none, (.ref 114), .none, 0⟩), #[]⟩
noncomputable def zo109 (_ : Params) : Obj := ⟨(.type SZ.s2766695959194262286x5), none, (.seq #[] 0), #[]⟩
noncomputable def zo110 (_ : Params) : Obj := ⟨.none, none, (.fields #[]), #[]⟩
noncomputable def zo111 (_ : Params) : Obj := ⟨(.type SZ.s2766695959194262286x5), none, (.seq #[(.str q221 343), (.str q223 344), (.str q233 345), (.str q234 346), (.str q235 347)] 0), #[]⟩
noncomputable def zo112 (_ : Params) : Obj := ⟨(.type SZ.s2766695959194262286x5), none, (.seq #[] 0), #[]⟩
noncomputable def zo113 (_ : Params) : Obj := ⟨.none, none, (.func ⟨q187, q187, fp19, fb19, fc19, 0, [], .none, .none, .none, .none, none, .none, .none, 0⟩), #[]⟩
noncomputable def zo114 (_ : Params) : Obj := ⟨(.type SZ.s5856160107412720595x4), none, (.fields #[(.str q187 340), (.str q187 341), (.str q167 342), (.int (.ofNat 82) 0), (.int (.ofNat 2) 0), (.int (.ofNat 0) 0), (.int (.ofNat 0) 0), (.int (.ofNat 3) 0), (.ref 116), (.bool true), (.int (.ofNat 181) 0), (.ref 117), .none, (.ref 118), (.ref 119), (.ref 120), (.int (.ofNat 348) 0), (.int (.ofNat 82) 0), (.str q167 349)]), #[]⟩
noncomputable def zo115 (_ : Params) : Obj := ⟨(.type SZ.s7174869446012820540x8), none, (.func ⟨q187, q187, fp19, fb19, fc19, 3, [], .none, .none, .none, (.str q220 223), none, (.ref 121), .none, 0⟩), #[]⟩
noncomputable def zo116 (_ : Params) : Obj := ⟨(.type SZ.s2766695959194262286x5), none, (.seq #[] 0), #[]⟩
noncomputable def zo117 (_ : Params) : Obj := ⟨.none, none, (.fields #[]), #[]⟩
noncomputable def zo118 (_ : Params) : Obj := ⟨(.type SZ.s2766695959194262286x5), none, (.seq #[(.str q221 354), (.str q223 355), (.str q232 356), (.str q233 357)] 0), #[]⟩
noncomputable def zo119 (_ : Params) : Obj := ⟨(.type SZ.s2766695959194262286x5), none, (.seq #[] 0), #[]⟩
noncomputable def zo120 (_ : Params) : Obj := ⟨.none, none, (.func ⟨q188, q188, fp20, fb20, fc20, 0, [], .none, .none, .none, .none, none, .none, .none, 0⟩), #[]⟩
noncomputable def zo121 (_ : Params) : Obj := ⟨(.type SZ.s5856160107412720595x4), none, (.fields #[(.str q188 351), (.str q188 352), (.str q167 353), (.int (.ofNat 90) 0), (.int (.ofNat 3) 0), (.int (.ofNat 0) 0), (.int (.ofNat 0) 0), (.int (.ofNat 3) 0), (.ref 123), (.bool true), (.int (.ofNat 181) 0), (.ref 124), .none, (.ref 125), (.ref 126), (.ref 127), (.int (.ofNat 358) 0), (.int (.ofNat 90) 0), (.str q167 359)]), #[]⟩
noncomputable def zo122 (_ : Params) : Obj := ⟨(.type SZ.s7174869446012820540x8), none, (.func ⟨q188, q188, fp20, fb20, fc20, 3, [], .none, .none, .none, (.str q220 223), none, (.ref 128), .none, 0⟩), #[]⟩
noncomputable def zo123 (_ : Params) : Obj := ⟨(.type SZ.s2766695959194262286x5), none, (.seq #[] 0), #[]⟩
noncomputable def zo124 (_ : Params) : Obj := ⟨.none, none, (.fields #[]), #[]⟩
noncomputable def zo125 (_ : Params) : Obj := ⟨(.type SZ.s2766695959194262286x5), none, (.seq #[(.str q221 364), (.str q223 365), (.str q230 366), (.str q231 367)] 0), #[]⟩
noncomputable def zo126 (_ : Params) : Obj := ⟨(.type SZ.s2766695959194262286x5), none, (.seq #[] 0), #[]⟩
noncomputable def zo127 (_ : Params) : Obj := ⟨.none, none, (.func ⟨q189, q189, fp21, fb21, fc21, 0, [], .none, .none, .none, .none, none, .none, .none, 0⟩), #[]⟩
noncomputable def zo128 (_ : Params) : Obj := ⟨(.type SZ.s5856160107412720595x4), none, (.fields #[(.str q189 361), (.str q189 362), (.str q167 363), (.int (.ofNat 96) 0), (.int (.ofNat 2) 0), (.int (.ofNat 0) 0), (.int (.ofNat 0) 0), (.int (.ofNat 3) 0), (.ref 130), (.bool true), (.int (.ofNat 181) 0), (.ref 131), .none, (.ref 132), (.ref 133), (.ref 134), (.int (.ofNat 368) 0), (.int (.ofNat 96) 0), (.str q167 369)]), #[]⟩
noncomputable def zo129 (_ : Params) : Obj := ⟨(.type SZ.s7174869446012820540x8), none, (.func ⟨q189, q189, fp21, fb21, fc21, 3, [], .none, .none, .none, (.str q220 223), none, (.ref 135), .none, 0⟩), #[]⟩
noncomputable def zo130 (_ : Params) : Obj := ⟨(.type SZ.s2766695959194262286x5), none, (.seq #[] 0), #[]⟩
noncomputable def zo131 (_ : Params) : Obj := ⟨.none, none, (.fields #[]), #[]⟩
noncomputable def zo132 (_ : Params) : Obj := ⟨(.type SZ.s2766695959194262286x5), none, (.seq #[(.str q221 374), (.str q223 375), (.str q230 376)] 0), #[]⟩
noncomputable def zo133 (_ : Params) : Obj := ⟨(.type SZ.s2766695959194262286x5), none, (.seq #[] 0), #[]⟩
noncomputable def zo134 (_ : Params) : Obj := ⟨.none, none, (.func ⟨q190, q190, fp22, fb22, fc22, 0, [], .none, .none, .none, .none, none, .none, .none, 0⟩), #[]⟩
noncomputable def zo135 (_ : Params) : Obj := ⟨(.type SZ.s5856160107412720595x4), none, (.fields #[(.str q190 371), (.str q190 372), (.str q167 373), (.int (.ofNat 100) 0), (.int (.ofNat 2) 0), (.int (.ofNat 0) 0), (.int (.ofNat 0) 0), (.int (.ofNat 3) 0), (.ref 137), (.bool true), (.int (.ofNat 181) 0), (.ref 138), .none, (.ref 139), (.ref 140), (.ref 141), (.int (.ofNat 377) 0), (.int (.ofNat 100) 0), (.str q167 378)]), #[]⟩
noncomputable def zo136 (_ : Params) : Obj := ⟨(.type SZ.s7174869446012820540x8), none, (.func ⟨q190, q190, fp22, fb22, fc22, 3, [], .none, .none, .none, (.str q220 223), none, (.ref 142), .none, 0⟩), #[]⟩
noncomputable def zo137 (_ : Params) : Obj := ⟨(.type SZ.s2766695959194262286x5), none, (.seq #[] 0), #[]⟩
noncomputable def zo138 (_ : Params) : Obj := ⟨.none, none, (.fields #[]), #[]⟩
noncomputable def zo139 (_ : Params) : Obj := ⟨(.type SZ.s2766695959194262286x5), none, (.seq #[(.str q221 383), (.str q223 384), (.str q230 385)] 0), #[]⟩
noncomputable def zo140 (_ : Params) : Obj := ⟨(.type SZ.s2766695959194262286x5), none, (.seq #[] 0), #[]⟩
noncomputable def zo141 (_ : Params) : Obj := ⟨.none, none, (.func ⟨q191, q191, fp23, fb23, fc23, 0, [], .none, .none, .none, .none, none, .none, .none, 0⟩), #[]⟩
noncomputable def zo142 (_ : Params) : Obj := ⟨(.type SZ.s5856160107412720595x4), none, (.fields #[(.str q191 380), (.str q191 381), (.str q167 382), (.int (.ofNat 103) 0), (.int (.ofNat 2) 0), (.int (.ofNat 0) 0), (.int (.ofNat 0) 0), (.int (.ofNat 3) 0), (.ref 144), (.bool true), (.int (.ofNat 181) 0), (.ref 145), .none, (.ref 146), (.ref 147), (.ref 148), (.int (.ofNat 386) 0), (.int (.ofNat 103) 0), (.str q167 387)]), #[]⟩
noncomputable def zo143 (_ : Params) : Obj := ⟨(.type SZ.s7174869446012820540x8), none, (.func ⟨q191, q191, fp23, fb23, fc23, 3, [], .none, .none, .none, (.str q220 223), none, (.ref 149), .none, 0⟩), #[]⟩
noncomputable def zo144 (_ : Params) : Obj := ⟨(.type SZ.s2766695959194262286x5), none, (.seq #[] 0), #[]⟩
noncomputable def zo145 (_ : Params) : Obj := ⟨.none, none, (.fields #[]), #[]⟩
noncomputable def zo146 (_ : Params) : Obj := ⟨.none, none, (.func ⟨q192, q192, fp24, fb24, fc24, 0, [], .none, .none, .none, .none, none, .none, .none, 0⟩), #[]⟩
noncomputable def zo147 (_ : Params) : Obj := ⟨(.type SZ.s5856160107412720595x4), none, (.fields #[(.str q192 389), (.str q192 390), (.str q167 391), (.int (.ofNat 106) 0), (.int (.ofNat 3) 0), (.int (.ofNat 0) 0), (.int (.ofNat 0) 0), (.int (.ofNat 3) 0), (.ref 151), (.bool true), (.int (.ofNat 181) 0), (.ref 152), .none, .none, .none, (.ref 153), (.int (.ofNat 392) 0), (.int (.ofNat 106) 0), (.str q167 393)]), #[]⟩
noncomputable def zo148 (_ : Params) : Obj := ⟨(.type SZ.s7174869446012820540x8), none, (.func ⟨q192, q192, fp24, fb24, fc24, 3, [], .none, .none, .none, (.str q220 223), none, (.ref 154), .none, 0⟩), #[]⟩
noncomputable def zo149 (_ : Params) : Obj := ⟨(.type SZ.s2766695959194262286x5), none, (.seq #[] 0), #[]⟩
noncomputable def zo150 (_ : Params) : Obj := ⟨.none, none, (.fields #[]), #[]⟩
noncomputable def zo151 (_ : Params) : Obj := ⟨(.type SZ.s2766695959194262286x5), none, (.seq #[(.str q231 398), (.str q232 399), (.str q236 400), (.str q237 401)] 0), #[]⟩
noncomputable def zo152 (_ : Params) : Obj := ⟨(.type SZ.s2766695959194262286x5), none, (.seq #[] 0), #[]⟩
noncomputable def zo153 (_ : Params) : Obj := ⟨.none, none, (.func ⟨q193, q193, fp25, fb25, fc25, 0, [], .none, .none, .none, .none, none, .none, .none, 0⟩), #[]⟩
noncomputable def zo154 (_ : Params) : Obj := ⟨(.type SZ.s5856160107412720595x4), none, (.fields #[(.str q193 395), (.str q193 396), (.str q167 397), (.int (.ofNat 116) 0), (.int (.ofNat 3) 0), (.int (.ofNat 0) 0), (.int (.ofNat 0) 0), (.int (.ofNat 3) 0), (.ref 156), (.bool true), (.int (.ofNat 181) 0), (.ref 157), .none, (.ref 158), (.ref 159), (.ref 160), (.int (.ofNat 402) 0), (.int (.ofNat 116) 0), (.str q167 403)]), #[]⟩
noncomputable def zo155 (_ : Params) : Obj := ⟨(.type SZ.s7174869446012820540x8), none, (.func ⟨q193, q193, fp25, fb25, fc25, 3, [], .none, .none, .none, (.str q220 223), none, (.ref 161), .none, 0⟩), #[]⟩
noncomputable def zo156 (_ : Params) : Obj := ⟨(.type SZ.s2766695959194262286x5), none, (.seq #[] 0), #[]⟩
noncomputable def zo157 (_ : Params) : Obj := ⟨.none, none, (.fields #[]), #[]⟩
noncomputable def zo158 (_ : Params) : Obj := ⟨(.type SZ.s2766695959194262286x5), none, (.seq #[(.str q221 408), (.str q224 409), (.str q231 410), (.str q236 411), (.str q223 412), (.str q226 413), (.str q232 414), (.str q230 415)] 0), #[]⟩
noncomputable def zo159 (_ : Params) : Obj := ⟨(.type SZ.s2766695959194262286x5), none, (.seq #[] 0), #[]⟩
noncomputable def zo160 (_ : Params) : Obj := ⟨.none, none, (.func ⟨q194, q194, fp26, fb26, fc26, 0, [], .none, .none, .none, .none, none, .none, .none, 0⟩), #[]⟩
noncomputable def zo161 (_ : Params) : Obj := ⟨(.type SZ.s5856160107412720595x4), none, (.fields #[(.str q194 405), (.str q194 406), (.str q167 407), (.int (.ofNat 120) 0), (.int (.ofNat 4) 0), (.int (.ofNat 0) 0), (.int (.ofNat 0) 0), (.int (.ofNat 3) 0), (.ref 163), (.bool true), (.int (.ofNat 181) 0), (.ref 164), .none, (.ref 165), (.ref 166), (.ref 167), (.int (.ofNat 416) 0), (.int (.ofNat 120) 0), (.str q167 417)]), #[]⟩
noncomputable def zo162 (_ : Params) : Obj := ⟨(.type SZ.s7174869446012820540x8), none, (.func ⟨q194, q194, fp26, fb26, fc26, 3, [], .none, .none, .none, (.str q220 223), none, (.ref 168), .none, 0⟩), #[]⟩
noncomputable def zo163 (_ : Params) : Obj := ⟨(.type SZ.s2766695959194262286x5), none, (.seq #[] 0), #[]⟩
noncomputable def zo164 (_ : Params) : Obj := ⟨.none, none, (.fields #[]), #[]⟩
noncomputable def zo165 (_ : Params) : Obj := ⟨(.type SZ.s2766695959194262286x5), none, (.seq #[(.str q230 422), (.str q238 423)] 0), #[]⟩
noncomputable def zo166 (_ : Params) : Obj := ⟨(.type SZ.s2766695959194262286x5), none, (.seq #[] 0), #[]⟩
noncomputable def zo167 (_ : Params) : Obj := ⟨.none, none, (.func ⟨q195, q195, fp27, fb27, fc27, 0, [], .none, .none, .none, .none, none, .none, .none, 0⟩), #[]⟩
noncomputable def zo168 (_ : Params) : Obj := ⟨(.type SZ.s5856160107412720595x4), none, (.fields #[(.str q195 419), (.str q195 420), (.str q167 421), (.int (.ofNat 124) 0), (.int (.ofNat 2) 0), (.int (.ofNat 0) 0), (.int (.ofNat 0) 0), (.int (.ofNat 3) 0), (.ref 170), (.bool true), (.int (.ofNat 181) 0), (.ref 171), .none, (.ref 172), (.ref 173), (.ref 174), (.int (.ofNat 424) 0), (.int (.ofNat 124) 0), (.str q167 425)]), #[]⟩
noncomputable def zo169 (_ : Params) : Obj := ⟨(.type SZ.s7174869446012820540x8), none, (.func ⟨q195, q195, fp27, fb27, fc27, 3, [], .none, .none, .none, (.str q220 223), none, (.ref 175), .none, 0⟩), #[]⟩
noncomputable def zo170 (_ : Params) : Obj := ⟨(.type SZ.s2766695959194262286x5), none, (.seq #[] 0), #[]⟩
noncomputable def zo171 (_ : Params) : Obj := ⟨.none, none, (.fields #[]), #[]⟩
noncomputable def zo172 (_ : Params) : Obj := ⟨(.type SZ.s2766695959194262286x5), none, (.seq #[(.str q221 430), (.str q223 431), (.str q238 432), (.str q230 433), (.str q225 434), (.str q231 435), (.str q239 436)] 0), #[]⟩
noncomputable def zo173 (_ : Params) : Obj := ⟨(.type SZ.s2766695959194262286x5), none, (.seq #[] 0), #[]⟩
noncomputable def zo174 (_ : Params) : Obj := ⟨.none, none, (.func ⟨q196, q196, fp28, fb28, fc28, 0, [], .none, .none, .none, .none, none, .none, .none, 0⟩), #[]⟩
noncomputable def zo175 (_ : Params) : Obj := ⟨(.type SZ.s5856160107412720595x4), none, (.fields #[(.str q196 427), (.str q196 428), (.str q167 429), (.int (.ofNat 129) 0), (.int (.ofNat 3) 0), (.int (.ofNat 0) 0), (.int (.ofNat 0) 0), (.int (.ofNat 3) 0), (.ref 177), (.bool true), (.int (.ofNat 181) 0), (.ref 178), .none, (.ref 179), (.ref 180), (.ref 181), (.int (.ofNat 437) 0), (.int (.ofNat 129) 0), (.str q167 438)]), #[]⟩
noncomputable def zo176 (_ : Params) : Obj := ⟨(.type SZ.s7174869446012820540x8), none, (.func ⟨q196, q196, fp28, fb28, fc28, 3, [], .none, .none, .none, (.str q220 223), none, (.ref 182), .none, 0⟩), #[]⟩
noncomputable def zo177 (_ : Params) : Obj := ⟨(.type SZ.s2766695959194262286x5), none, (.seq #[] 0), #[]⟩
noncomputable def zo178 (_ : Params) : Obj := ⟨.none, none, (.fields #[]), #[]⟩
noncomputable def zo179 (_ : Params) : Obj := ⟨(.type SZ.s2766695959194262286x5), none, (.seq #[(.str q221 443), (.str q223 444), (.str q238 445), (.str q240 446), (.str q230 447), (.str q225 448), (.str q231 449), (.str q239 450)] 0), #[]⟩
noncomputable def zo180 (_ : Params) : Obj := ⟨(.type SZ.s2766695959194262286x5), none, (.seq #[] 0), #[]⟩
noncomputable def zo181 (_ : Params) : Obj := ⟨.none, none, (.func ⟨q197, q197, fp29, fb29, fc29, 0, [], .none, .none, .none, .none, none, .none, .none, 0⟩), #[]⟩
noncomputable def zo182 (_ : Params) : Obj := ⟨(.type SZ.s5856160107412720595x4), none, (.fields #[(.str q197 440), (.str q197 441), (.str q167 442), (.int (.ofNat 137) 0), (.int (.ofNat 4) 0), (.int (.ofNat 0) 0), (.int (.ofNat 0) 0), (.int (.ofNat 3) 0), (.ref 184), (.bool true), (.int (.ofNat 181) 0), (.ref 185), .none, (.ref 186), (.ref 187), (.ref 188), (.int (.ofNat 451) 0), (.int (.ofNat 137) 0), (.str q167 452)]), #[]⟩
noncomputable def zo183 (_ : Params) : Obj := ⟨(.type SZ.s7174869446012820540x8), none, (.func ⟨q197, q197, fp29, fb29, fc29, 3, [], .none, .none, .none, (.str q220 223), none, (.ref 189), .none, 0⟩), #[]⟩
noncomputable def zo184 (_ : Params) : Obj := ⟨(.type SZ.s2766695959194262286x5), none, (.seq #[(.int (.ofNat 16) 468), (.int (.ofNat 9) 469), (.int (.ofNat 2000) 470), (.int (.ofNat 20) 471), (.int (.ofNat 2000) 472)] 0), #[]⟩
noncomputable def zo185 (_ : Params) : Obj := ⟨(.type SZ.s2766695959194262286x5), none, (.seq #[] 0), #[]⟩
noncomputable def zo186 (_ : Params) : Obj := ⟨.none, none, (.fields #[]), #[]⟩
noncomputable def zo187 (_ : Params) : Obj := ⟨(.type SZ.s2766695959194262286x5), none, (.seq #[(.str q210 476), (.str q241 477), (.str q242 478), (.str q243 479), (.str q244 480), (.str q240 481)] 0), #[]⟩
noncomputable def zo188 (_ : Params) : Obj := ⟨(.type SZ.s2766695959194262286x5), none, (.seq #[] 0), #[]⟩
noncomputable def zo189 (_ : Params) : Obj := ⟨.none, none, (.func ⟨q213, q245, fpJ, fbJ, fcJ, 0, [], .none, .none, .none, .none, none, .none, .none, 0⟩), #[]⟩
noncomputable def zo190 (_ : Params) : Obj := ⟨(.type SZ.s5856160107412720595x4), none, (.fields #[(.str q213 473), (.str q245 474), (.str q167 475), (.int (.ofNat 149) 0), (.int (.ofNat 6) 0), (.int (.ofNat 0) 0), (.int (.ofNat 0) 0), (.int (.ofNat 3) 0), (.ref 199), (.bool true), (.int (.ofNat 181) 0), (.ref 200), .none, (.ref 201), (.ref 202), (.ref 203), (.int (.ofNat 482) 0), (.int (.ofNat 149) 0), (.str q167 483)]), #[]⟩
noncomputable def zo191 (_ : Params) : Obj := ⟨(.type SZ.s7174869446012820540x8), none, (.func ⟨q213, q245, fpJ, fbJ, fcJ, 3, [], (.ref 198), .none, .none, (.str q246 454), none, (.ref 204), .none, 0⟩), #[]⟩
noncomputable def zo192 (_ : Params) : Obj := ⟨(.type SZ.s2766695959194262286x5), none, (.seq #[(.str q247 485), (.str q248 486), (.str q241 487), (.str q249 488), (.str q250 489), (.str q251 490), (.str q242 491), (.str q252 492), (.str q253 493), (.str q254 494), (.str q255 495), (.str q256 496), (.str q257 497), (.str q258 498), (.str q259 499), (.str q260 500), (.str q261 501), (.str q244 502), (.str q243 503), (.str q262 504), (.str q153 505), (.str q263 506), (.str q240 507), (.str q235 508), (.str q264 509), (.str q265 510), (.str q266 511), (.str q267 512)] 0), #[]⟩
noncomputable def zo193 (P : Params) : Obj := ⟨(.type SZ.s14018661285674007319x4), none, (.dict #[⟨(KH P q216), (.str q216 463), (.str q246 454)⟩, ⟨(KH P q217), (.str q217 467), (.int (.ofNat 147) 466)⟩, ⟨(KH P q213), (.str q213 484), (.ref 205)⟩, ⟨(KH P q218), (.str q218 513), (.ref 206)⟩, ⟨(KH P q268), (.str q268 515), (.ref 209)⟩, ⟨(KH P q219), (.str q219 517), (.ref 210)⟩, ⟨(KH P q2), (.str q2 518), .none⟩] 4), #[]⟩
noncomputable def zo194 (_ : Params) : Obj := ⟨(.type SZ.s17162191345867700912x4), none, (.cls ⟨q198, [(.type SZ.s2742458400755230247x6)], [(.ref 208), (.type SZ.s2742458400755230247x6)], 207, q198, true, [], [], false, none, false⟩), #[none, none, (some (.str q198 456)), (some (.str q198 464)), (some (.builtin SZ.s11443829558043349243x14)), (some (.bool true))]⟩
noncomputable def zo195 (_ : Params) : Obj := ⟨(.type SZ.s14755015743595814543x17), none, (.fields #[(.str q268 514), (.ref 208), (.builtin SZ.s6511155373996960695x17), (.builtin SZ.s12411053484034534018x21)]), #[]⟩
noncomputable def zo196 (_ : Params) : Obj := ⟨(.type SZ.s14755015743595814543x17), none, (.fields #[(.str q219 516), (.ref 208), (.builtin SZ.s10220274742760427390x26), .none]), #[]⟩
noncomputable def zo197 (_ : Params) : Obj := ⟨(.type SZ.s2766695959194262286x5), none, (.seq #[] 0), #[]⟩
noncomputable def zo198 (_ : Params) : Obj := ⟨.none, none, (.fields #[]), #[]⟩
noncomputable def zo199 (_ : Params) : Obj := ⟨(.type SZ.s2766695959194262286x5), none, (.seq #[(.str q269 526), (.str q232 527), (.str q270 528), (.str q271 529)] 0), #[]⟩
noncomputable def zo200 (_ : Params) : Obj := ⟨(.type SZ.s2766695959194262286x5), none, (.seq #[] 0), #[]⟩
noncomputable def zo201 (_ : Params) : Obj := ⟨.none, none, (.func ⟨q199, q199, fp33, fb33, fc33, 0, [], .none, .none, .none, .none, none, .none, .none, 0⟩), #[]⟩
noncomputable def zo202 (_ : Params) : Obj := ⟨(.type SZ.s5856160107412720595x4), none, (.fields #[(.str q199 523), (.str q199 524), (.str q167 525), (.int (.ofNat 179) 0), (.int (.ofNat 2) 0), (.int (.ofNat 0) 0), (.int (.ofNat 0) 0), (.int (.ofNat 3) 0), (.ref 213), (.bool true), (.int (.ofNat 181) 0), (.ref 214), .none, (.ref 215), (.ref 216), (.ref 217), (.int (.ofNat 530) 0), (.int (.ofNat 179) 0), (.str q167 531)]), #[]⟩
noncomputable def zo203 (_ : Params) : Obj := ⟨(.type SZ.s7174869446012820540x8), none, (.func ⟨q199, q199, fp33, fb33, fc33, 3, [], .none, .none, .none, (.str q163 521), none, (.ref 218), .none, 0⟩), #[]⟩
noncomputable def zo204 (_ : Params) : Obj := ⟨(.type SZ.s2766695959194262286x5), none, (.seq #[] 0), #[]⟩
noncomputable def zo205 (_ : Params) : Obj := ⟨.none, none, (.fields #[]), #[]⟩
noncomputable def zo206 (_ : Params) : Obj := ⟨(.type SZ.s2766695959194262286x5), none, (.seq #[(.str q221 536)] 0), #[]⟩
noncomputable def zo207 (_ : Params) : Obj := ⟨(.type SZ.s2766695959194262286x5), none, (.seq #[] 0), #[]⟩
noncomputable def zo208 (_ : Params) : Obj := ⟨.none, none, (.func ⟨q200, q200, fp34, fb34, fc34, 0, [], .none, .none, .none, .none, none, .none, .none, 0⟩), #[]⟩
noncomputable def zo209 (_ : Params) : Obj := ⟨(.type SZ.s5856160107412720595x4), none, (.fields #[(.str q200 533), (.str q200 534), (.str q167 535), (.int (.ofNat 185) 0), (.int (.ofNat 0) 0), (.int (.ofNat 0) 0), (.int (.ofNat 0) 0), (.int (.ofNat 3) 0), (.ref 220), (.bool true), (.int (.ofNat 181) 0), (.ref 221), .none, (.ref 222), (.ref 223), (.ref 224), (.int (.ofNat 537) 0), (.int (.ofNat 185) 0), (.str q167 538)]), #[]⟩
noncomputable def zo210 (_ : Params) : Obj := ⟨(.type SZ.s7174869446012820540x8), none, (.func ⟨q200, q200, fp34, fb34, fc34, 3, [], .none, .none, .none, (.str q163 521), none, (.ref 225), .none, 0⟩), #[]⟩
noncomputable def zo211 (_ : Params) : Obj := ⟨(.type SZ.s2766695959194262286x5), none, (.seq #[] 0), #[]⟩
noncomputable def zo212 (_ : Params) : Obj := ⟨.none, none, (.fields #[]), #[]⟩
noncomputable def zo213 (_ : Params) : Obj := ⟨(.type SZ.s2766695959194262286x5), none, (.seq #[(.str q221 543)] 0), #[]⟩
noncomputable def zo214 (_ : Params) : Obj := ⟨(.type SZ.s2766695959194262286x5), none, (.seq #[(.str q221 544)] 0), #[]⟩
noncomputable def zo215 (_ : Params) : Obj := ⟨.none, none, (.func ⟨q201, q201, fp35, fb35, fc35, 0, [], .none, .none, .none, .none, none, .none, .none, 0⟩), #[]⟩
noncomputable def zo216 (_ : Params) : Obj := ⟨(.type SZ.s5856160107412720595x4), none, (.fields #[(.str q201 540), (.str q201 541), (.str q167 542), (.int (.ofNat 196) 0), (.int (.ofNat 1) 0), (.int (.ofNat 0) 0), (.int (.ofNat 0) 0), (.int (.ofNat 3) 0), (.ref 227), (.bool true), (.int (.ofNat 181) 0), (.ref 228), .none, (.ref 229), (.ref 230), (.ref 231), (.int (.ofNat 545) 0), (.int (.ofNat 196) 0), (.str q167 546)]), #[]⟩
noncomputable def zo217 (_ : Params) : Obj := ⟨(.type SZ.s7174869446012820540x8), none, (.func ⟨q201, q201, fp35, fb35, fc35, 3, [], .none, .none, .none, (.str q163 521), none, (.ref 232), .none, 0⟩), #[]⟩
noncomputable def zo218 (_ : Params) : Obj := ⟨(.type SZ.s2766695959194262286x5), none, (.seq #[] 0), #[]⟩
noncomputable def zo219 (_ : Params) : Obj := ⟨.none, none, (.fields #[]), #[]⟩
noncomputable def zo220 (_ : Params) : Obj := ⟨(.type SZ.s2766695959194262286x5), none, (.seq #[(.str q221 551)] 0), #[]⟩
noncomputable def zo221 (_ : Params) : Obj := ⟨(.type SZ.s2766695959194262286x5), none, (.seq #[(.str q221 552)] 0), #[]⟩
noncomputable def zo222 (_ : Params) : Obj := ⟨.none, none, (.func ⟨q202, q202, fp36, fb36, fc36, 0, [], .none, .none, .none, .none, none, .none, .none, 0⟩), #[]⟩
noncomputable def zo223 (_ : Params) : Obj := ⟨(.type SZ.s5856160107412720595x4), none, (.fields #[(.str q202 548), (.str q202 549), (.str q167 550), (.int (.ofNat 214) 0), (.int (.ofNat 1) 0), (.int (.ofNat 0) 0), (.int (.ofNat 0) 0), (.int (.ofNat 3) 0), (.ref 234), (.bool true), (.int (.ofNat 181) 0), (.ref 235), .none, (.ref 236), (.ref 237), (.ref 238), (.int (.ofNat 553) 0), (.int (.ofNat 214) 0), (.str q167 554)]), #[]⟩
noncomputable def zo224 (_ : Params) : Obj := ⟨(.type SZ.s7174869446012820540x8), none, (.func ⟨q202, q202, fp36, fb36, fc36, 3, [], .none, .none, .none, (.str q163 521), none, (.ref 239), .none, 0⟩), #[]⟩
noncomputable def zo225 (_ : Params) : Obj := ⟨(.type SZ.s2766695959194262286x5), none, (.seq #[] 0), #[]⟩
noncomputable def zo226 (_ : Params) : Obj := ⟨.none, none, (.fields #[]), #[]⟩
noncomputable def zo227 (_ : Params) : Obj := ⟨(.type SZ.s2766695959194262286x5), none, (.seq #[(.str q221 559)] 0), #[]⟩
noncomputable def zo228 (_ : Params) : Obj := ⟨(.type SZ.s2766695959194262286x5), none, (.seq #[(.str q221 560)] 0), #[]⟩
noncomputable def zo229 (_ : Params) : Obj := ⟨.none, none, (.func ⟨q203, q203, fp37, fb37, fc37, 0, [], .none, .none, .none, .none, none, .none, .none, 0⟩), #[]⟩
noncomputable def zo230 (_ : Params) : Obj := ⟨(.type SZ.s5856160107412720595x4), none, (.fields #[(.str q203 556), (.str q203 557), (.str q167 558), (.int (.ofNat 233) 0), (.int (.ofNat 1) 0), (.int (.ofNat 0) 0), (.int (.ofNat 0) 0), (.int (.ofNat 3) 0), (.ref 241), (.bool true), (.int (.ofNat 181) 0), (.ref 242), .none, (.ref 243), (.ref 244), (.ref 245), (.int (.ofNat 561) 0), (.int (.ofNat 233) 0), (.str q167 562)]), #[]⟩
noncomputable def zo231 (_ : Params) : Obj := ⟨(.type SZ.s7174869446012820540x8), none, (.func ⟨q203, q203, fp37, fb37, fc37, 3, [], .none, .none, .none, (.str q163 521), none, (.ref 246), .none, 0⟩), #[]⟩
noncomputable def zo232 (_ : Params) : Obj := ⟨(.type SZ.s2766695959194262286x5), none, (.seq #[] 0), #[]⟩
noncomputable def zo233 (_ : Params) : Obj := ⟨.none, none, (.fields #[]), #[]⟩
noncomputable def zo234 (_ : Params) : Obj := ⟨.none, none, (.func ⟨q204, q204, fp38, fb38, fc38, 0, [], .none, .none, .none, .none, none, .none, .none, 0⟩), #[]⟩
noncomputable def zo235 (_ : Params) : Obj := ⟨(.type SZ.s5856160107412720595x4), none, (.fields #[(.str q204 564), (.str q204 565), (.str q167 566), (.int (.ofNat 248) 0), (.int (.ofNat 1) 0), (.int (.ofNat 0) 0), (.int (.ofNat 0) 0), (.int (.ofNat 3) 0), (.ref 248), (.bool true), (.int (.ofNat 181) 0), (.ref 249), .none, .none, .none, (.ref 250), (.int (.ofNat 567) 0), (.int (.ofNat 248) 0), (.str q167 568)]), #[]⟩
noncomputable def zo236 (_ : Params) : Obj := ⟨(.type SZ.s7174869446012820540x8), none, (.func ⟨q204, q204, fp38, fb38, fc38, 3, [], .none, .none, .none, (.str q163 521), none, (.ref 251), .none, 0⟩), #[]⟩
noncomputable def zo237 (_ : Params) : Obj := ⟨(.type SZ.s2766695959194262286x5), none, (.seq #[] 0), #[]⟩
noncomputable def zo238 (_ : Params) : Obj := ⟨.none, none, (.fields #[]), #[]⟩
noncomputable def zo239 (_ : Params) : Obj := ⟨(.type SZ.s2766695959194262286x5), none, (.seq #[(.str q272 573), (.str q273 574)] 0), #[]⟩
noncomputable def zo240 (_ : Params) : Obj := ⟨(.type SZ.s2766695959194262286x5), none, (.seq #[] 0), #[]⟩
noncomputable def zo241 (_ : Params) : Obj := ⟨.none, none, (.func ⟨q205, q205, fp39, fb39, fc39, 0, [], .none, .none, .none, .none, none, .none, .none, 0⟩), #[]⟩
noncomputable def zo242 (_ : Params) : Obj := ⟨(.type SZ.s5856160107412720595x4), none, (.fields #[(.str q205 570), (.str q205 571), (.str q167 572), (.int (.ofNat 251) 0), (.int (.ofNat 1) 0), (.int (.ofNat 0) 0), (.int (.ofNat 0) 0), (.int (.ofNat 3) 0), (.ref 253), (.bool true), (.int (.ofNat 181) 0), (.ref 254), .none, (.ref 255), (.ref 256), (.ref 257), (.int (.ofNat 575) 0), (.int (.ofNat 251) 0), (.str q167 576)]), #[]⟩
noncomputable def zo243 (_ : Params) : Obj := ⟨(.type SZ.s7174869446012820540x8), none, (.func ⟨q205, q205, fp39, fb39, fc39, 3, [], .none, .none, .none, (.str q163 521), none, (.ref 258), .none, 0⟩), #[]⟩
noncomputable def zo244 (_ : Params) : Obj := ⟨(.type SZ.s2766695959194262286x5), none, (.seq #[] 0), #[]⟩
noncomputable def zo245 (_ : Params) : Obj := ⟨.none, none, (.fields #[]), #[]⟩
noncomputable def zo246 (_ : Params) : Obj := ⟨(.type SZ.s2766695959194262286x5), none, (.seq #[(.str q274 581), (.str q269 582), (.str q221 583), (.str q275 584), (.str q271 585), (.str q276 586), (.str q211 587), (.str q272 588), (.str q212 589)] 0), #[]⟩
noncomputable def zo247 (_ : Params) : Obj := ⟨(.type SZ.s2766695959194262286x5), none, (.seq #[] 0), #[]⟩
noncomputable def zo248 (_ : Params) : Obj := ⟨.none, none, (.func ⟨q206, q206, fp40, fb40, fc40, 0, [], .none, .none, .none, .none, none, .none, .none, 0⟩), #[]⟩
noncomputable def zo249 (_ : Params) : Obj := ⟨(.type SZ.s5856160107412720595x4), none, (.fields #[(.str q206 578), (.str q206 579), (.str q167 580), (.int (.ofNat 257) 0), (.int (.ofNat 1) 0), (.int (.ofNat 0) 0), (.int (.ofNat 0) 0), (.int (.ofNat 3) 0), (.ref 260), (.bool true), (.int (.ofNat 181) 0), (.ref 261), .none, (.ref 262), (.ref 263), (.ref 264), (.int (.ofNat 590) 0), (.int (.ofNat 257) 0), (.str q167 591)]), #[]⟩
noncomputable def zo250 (_ : Params) : Obj := ⟨(.type SZ.s7174869446012820540x8), none, (.func ⟨q206, q206, fp40, fb40, fc40, 3, [], .none, .none, .none, (.str q163 521), none, (.ref 265), .none, 0⟩), #[]⟩
noncomputable def hp0 (P : Params) : Frag := [(0, (zo1 P)), (1, (zo2 P)), (2, (zo3 P)), (3, (zo4 P)), (4, (zo5 P)), (5, (zo6 P)), (6, (zo7 P)), (7, (zo8 P)), (8, (zo9 P)), (9, (zo10 P)), (10, (zo11 P)), (11, (zo12 P)), (12, (zo13 P)), (13, (zo14 P)), (14, (zo15 P)), (15, (zo16 P)), (18, (zo17 P)), (23, (zo18 P)), (24, (zo19 P)), (25, (zo20 P)), (26, (zo21 P)), (27, (zo22 P)), (28, (zo23 P)), (29, (zo24 P)), (30, (zo25 P)), (31, (zo26 P)), (32, (zo27 P)), (33, (zo28 P)), (34, (zo29 P)), (35, (zo30 P)), (38, (zo31 P)), (39, (zo32 P)), (40, (zo33 P)), (41, (zo34 P)), (42, (zo35 P)), (43, (zo36 P)), (44, (zo37 P)), (45, (zo38 P)), (46, (zo39 P)), (47, (zo40 P)), (48, (zo41 P)), (49, (zo42 P)), (50, (zo43 P)), (51, (zo44 P)), (52, (zo45 P)), (53, (zo46 P)), (54, (zo47 P)), (55, (zo48 P)), (56, (zo49 P)), (57, (zo50 P)), (58, (zo51 P)), (59, (zo52 P)), (60, (zo53 P)), (61, (zo54 P)), (62, (zo55 P)), (63, (zo56 P)), (64, (zo57 P)), (65, (zo58 P)), (66, (zo59 P)), (67, (zo60 P)), (68, (zo61 P)), (69, (zo62 P)), (70, (zo63 P)), (71, (zo64 P)), (72, (zo65 P)), (73, (zo66 P)), (74, (zo67 P)), (75, (zo68 P)), (76, (zo69 P)), (77, (zo70 P)), (78, (zo71 P)), (79, (zo72 P)), (80, (zo73 P)), (81, (zo74 P)), (82, (zo75 P)), (83, (zo76 P)), (84, (zo77 P)), (85, (zo78 P)), (86, (zo79 P)), (87, (zo80 P)), (88, (zo81 P)), (89, (zo82 P)), (90, (zo83 P)), (91, (zo84 P)), (92, (zo85 P)), (93, (zo86 P)), (94, (zo87 P)), (95, (zo88 P)), (96, (zo89 P)), (97, (zo90 P)), (98, (zo91 P)), (99, (zo92 P)), (100, (zo93 P)), (101, (zo94 P)), (102, (zo95 P)), (103, (zo96 P)), (104, (zo97 P)), (105, (zo98 P)), (106, (zo99 P)), (107, (zo100 P)), (108, (zo101 P)), (109, (zo102 P)), (110, (zo103 P)), (111, (zo104 P)), (112, (zo105 P)), (113, (zo106 P)), (114, (zo107 P)), (115, (zo108 P)), (116, (zo109 P)), (117, (zo110 P)), (118, (zo111 P)), (119, (zo112 P)), (120, (zo113 P)), (121, (zo114 P)), (122, (zo115 P)), (123, (zo116 P)), (124, (zo117 P)), (125, (zo118 P)), (126, (zo119 P)), (127, (zo120 P)), (128, (zo121 P)), (129, (zo122 P)), (130, (zo123 P)), (131, (zo124 P)), (132, (zo125 P)), (133, (zo126 P)), (134, (zo127 P)), (135, (zo128 P)), (136, (zo129 P)), (137, (zo130 P)), (138, (zo131 P)), (139, (zo132 P)), (140, (zo133 P)), (141, (zo134 P)), (142, (zo135 P)), (143, (zo136 P)), (144, (zo137 P)), (145, (zo138 P)), (146, (zo139 P)), (147, (zo140 P)), (148, (zo141 P)), (149, (zo142 P)), (150, (zo143 P)), (151, (zo144 P)), (152, (zo145 P)), (153, (zo146 P)), (154, (zo147 P)), (155, (zo148 P)), (156, (zo149 P)), (157, (zo150 P)), (158, (zo151 P)), (159, (zo152 P)), (160, (zo153 P)), (161, (zo154 P)), (162, (zo155 P)), (163, (zo156 P)), (164, (zo157 P)), (165, (zo158 P)), (166, (zo159 P)), (167, (zo160 P)), (168, (zo161 P)), (169, (zo162 P)), (170, (zo163 P)), (171, (zo164 P)), (172, (zo165 P)), (173, (zo166 P)), (174, (zo167 P)), (175, (zo168 P)), (176, (zo169 P)), (177, (zo170 P)), (178, (zo171 P)), (179, (zo172 P)), (180, (zo173 P)), (181, (zo174 P)), (182, (zo175 P)), (183, (zo176 P)), (184, (zo177 P)), (185, (zo178 P)), (186, (zo179 P)), (187, (zo180 P)), (188, (zo181 P)), (189, (zo182 P)), (190, (zo183 P)), (198, (zo184 P)), (199, (zo185 P)), (200, (zo186 P)), (201, (zo187 P)), (202, (zo188 P)), (203, (zo189 P)), (204, (zo190 P)), (205, (zo191 P)), (206, (zo192 P)), (207, (zo193 P)), (208, (zo194 P)), (209, (zo195 P)), (210, (zo196 P)), (213, (zo197 P)), (214, (zo198 P)), (215, (zo199 P)), (216, (zo200 P)), (217, (zo201 P)), (218, (zo202 P)), (219, (zo203 P)), (220, (zo204 P)), (221, (zo205 P)), (222, (zo206 P)), (223, (zo207 P)), (224, (zo208 P)), (225, (zo209 P)), (226, (zo210 P)), (227, (zo211 P)), (228, (zo212 P)), (229, (zo213 P)), (230, (zo214 P)), (231, (zo215 P)), (232, (zo216 P)), (233, (zo217 P)), (234, (zo218 P)), (235, (zo219 P)), (236, (zo220 P)), (237, (zo221 P)), (238, (zo222 P)), (239, (zo223 P)), (240, (zo224 P)), (241, (zo225 P)), (242, (zo226 P)), (243, (zo227 P)), (244, (zo228 P)), (245, (zo229 P)), (246, (zo230 P)), (247, (zo231 P)), (248, (zo232 P)), (249, (zo233 P)), (250, (zo234 P)), (251, (zo235 P)), (252, (zo236 P)), (253, (zo237 P)), (254, (zo238 P)), (255, (zo239 P)), (256, (zo240 P)), (257, (zo241 P)), (258, (zo242 P)), (259, (zo243 P)), (260, (zo244 P)), (261, (zo245 P)), (262, (zo246 P)), (263, (zo247 P)), (264, (zo248 P)), (265, (zo249 P)), (266, (zo250 P))]
noncomputable def hk0 (P : Params) : KT := (.node (some (zo1 P)) (.node (some (zo2 P)) (.node (some (zo4 P)) (.node (some (zo8 P)) (.node (some (zo16 P)) (.node (some (zo26 P)) (.node (some (zo56 P)) (.node (some (zo120 P)) (.node (some (zo239 P)) .nil .nil) .nil) .nil) (.node (some (zo88 P)) (.node (some (zo152 P)) .nil .nil) (.node (some (zo207 P)) .nil .nil))) (.node (some (zo40 P)) (.node (some (zo72 P)) (.node (some (zo136 P)) .nil .nil) (.node (some (zo193 P)) .nil .nil)) (.node (some (zo104 P)) (.node (some (zo168 P)) .nil .nil) (.node (some (zo223 P)) .nil .nil)))) (.node (some (zo18 P)) (.node (some (zo32 P)) (.node (some (zo64 P)) (.node (some (zo128 P)) (.node (some (zo247 P)) .nil .nil) .nil) (.node (some (zo185 P)) .nil .nil)) (.node (some (zo96 P)) (.node (some (zo160 P)) .nil .nil) (.node (some (zo215 P)) .nil .nil))) (.node (some (zo48 P)) (.node (some (zo80 P)) (.node (some (zo144 P)) .nil .nil) (.node (some (zo199 P)) .nil .nil)) (.node (some (zo112 P)) (.node (some (zo176 P)) .nil .nil) (.node (some (zo231 P)) .nil .nil))))) (.node (some (zo12 P)) (.node none (.node (some (zo30 P)) (.node (some (zo60 P)) (.node (some (zo124 P)) (.node (some (zo243 P)) .nil .nil) .nil) .nil) (.node (some (zo92 P)) (.node (some (zo156 P)) .nil .nil) (.node (some (zo211 P)) .nil .nil))) (.node (some (zo44 P)) (.node (some (zo76 P)) (.node (some (zo140 P)) .nil .nil) .nil) (.node (some (zo108 P)) (.node (some (zo172 P)) .nil .nil) (.node (some (zo227 P)) .nil .nil)))) (.node (some (zo22 P)) (.node (some (zo36 P)) (.node (some (zo68 P)) (.node (some (zo132 P)) .nil .nil) (.node (some (zo189 P)) .nil .nil)) (.node (some (zo100 P)) (.node (some (zo164 P)) .nil .nil) (.node (some (zo219 P)) .nil .nil))) (.node (some (zo52 P)) (.node (some (zo84 P)) (.node (some (zo148 P)) .nil .nil) (.node (some (zo203 P)) .nil .nil)) (.node (some (zo116 P)) (.node (some (zo180 P)) .nil .nil) (.node (some (zo235 P)) .nil .nil)))))) (.node (some (zo6 P)) (.node (some (zo10 P)) (.node none (.node (some (zo28 P)) (.node (some (zo58 P)) (.node (some (zo122 P)) (.node (some (zo241 P)) .nil .nil) .nil) .nil) (.node (some (zo90 P)) (.node (some (zo154 P)) .nil .nil) (.node (some (zo209 P)) .nil .nil))) (.node (some (zo42 P)) (.node (some (zo74 P)) (.node (some (zo138 P)) .nil .nil) (.node (some (zo195 P)) .nil .nil)) (.node (some (zo106 P)) (.node (some (zo170 P)) .nil .nil) (.node (some (zo225 P)) .nil .nil)))) (.node (some (zo20 P)) (.node (some (zo34 P)) (.node (some (zo66 P)) (.node (some (zo130 P)) (.node (some (zo249 P)) .nil .nil) .nil) (.node (some (zo187 P)) .nil .nil)) (.node (some (zo98 P)) (.node (some (zo162 P)) .nil .nil) (.node (some (zo217 P)) .nil .nil))) (.node (some (zo50 P)) (.node (some (zo82 P)) (.node (some (zo146 P)) .nil .nil) (.node (some (zo201 P)) .nil .nil)) (.node (some (zo114 P)) (.node (some (zo178 P)) .nil .nil) (.node (some (zo233 P)) .nil .nil))))) (.node (some (zo14 P)) (.node none (.node none (.node (some (zo62 P)) (.node (some (zo126 P)) (.node (some (zo245 P)) .nil .nil) .nil) .nil) (.node (some (zo94 P)) (.node (some (zo158 P)) .nil .nil) (.node (some (zo213 P)) .nil .nil))) (.node (some (zo46 P)) (.node (some (zo78 P)) (.node (some (zo142 P)) .nil .nil) (.node (some (zo197 P)) .nil .nil)) (.node (some (zo110 P)) (.node (some (zo174 P)) .nil .nil) (.node (some (zo229 P)) .nil .nil)))) (.node (some (zo24 P)) (.node (some (zo38 P)) (.node (some (zo70 P)) (.node (some (zo134 P)) .nil .nil) (.node (some (zo191 P)) .nil .nil)) (.node (some (zo102 P)) (.node (some (zo166 P)) .nil .nil) (.node (some (zo221 P)) .nil .nil))) (.node (some (zo54 P)) (.node (some (zo86 P)) (.node (some (zo150 P)) .nil .nil) (.node (some (zo205 P)) .nil .nil)) (.node (some (zo118 P)) (.node (some (zo182 P)) .nil .nil) (.node (some (zo237 P)) .nil .nil))))))) (.node (some (zo3 P)) (.node (some (zo5 P)) (.node (some (zo9 P)) (.node none (.node (some (zo27 P)) (.node (some (zo57 P)) (.node (some (zo121 P)) (.node (some (zo240 P)) .nil .nil) .nil) .nil) (.node (some (zo89 P)) (.node (some (zo153 P)) .nil .nil) (.node (some (zo208 P)) .nil .nil))) (.node (some (zo41 P)) (.node (some (zo73 P)) (.node (some (zo137 P)) .nil .nil) (.node (some (zo194 P)) .nil .nil)) (.node (some (zo105 P)) (.node (some (zo169 P)) .nil .nil) (.node (some (zo224 P)) .nil .nil)))) (.node (some (zo19 P)) (.node (some (zo33 P)) (.node (some (zo65 P)) (.node (some (zo129 P)) (.node (some (zo248 P)) .nil .nil) .nil) (.node (some (zo186 P)) .nil .nil)) (.node (some (zo97 P)) (.node (some (zo161 P)) .nil .nil) (.node (some (zo216 P)) .nil .nil))) (.node (some (zo49 P)) (.node (some (zo81 P)) (.node (some (zo145 P)) .nil .nil) (.node (some (zo200 P)) .nil .nil)) (.node (some (zo113 P)) (.node (some (zo177 P)) .nil .nil) (.node (some (zo232 P)) .nil .nil))))) (.node (some (zo13 P)) (.node none (.node none (.node (some (zo61 P)) (.node (some (zo125 P)) (.node (some (zo244 P)) .nil .nil) .nil) .nil) (.node (some (zo93 P)) (.node (some (zo157 P)) .nil .nil) (.node (some (zo212 P)) .nil .nil))) (.node (some (zo45 P)) (.node (some (zo77 P)) (.node (some (zo141 P)) .nil .nil) .nil) (.node (some (zo109 P)) (.node (some (zo173 P)) .nil .nil) (.node (some (zo228 P)) .nil .nil)))) (.node (some (zo23 P)) (.node (some (zo37 P)) (.node (some (zo69 P)) (.node (some (zo133 P)) .nil .nil) (.node (some (zo190 P)) .nil .nil)) (.node (some (zo101 P)) (.node (some (zo165 P)) .nil .nil) (.node (some (zo220 P)) .nil .nil))) (.node (some (zo53 P)) (.node (some (zo85 P)) (.node (some (zo149 P)) .nil .nil) (.node (some (zo204 P)) .nil .nil)) (.node (some (zo117 P)) (.node (some (zo181 P)) .nil .nil) (.node (some (zo236 P)) .nil .nil)))))) (.node (some (zo7 P)) (.node (some (zo11 P)) (.node (some (zo17 P)) (.node (some (zo29 P)) (.node (some (zo59 P)) (.node (some (zo123 P)) (.node (some (zo242 P)) .nil .nil) .nil) .nil) (.node (some (zo91 P)) (.node (some (zo155 P)) .nil .nil) (.node (some (zo210 P)) .nil .nil))) (.node (some (zo43 P)) (.node (some (zo75 P)) (.node (some (zo139 P)) .nil .nil) (.node (some (zo196 P)) .nil .nil)) (.node (some (zo107 P)) (.node (some (zo171 P)) .nil .nil) (.node (some (zo226 P)) .nil .nil)))) (.node (some (zo21 P)) (.node (some (zo35 P)) (.node (some (zo67 P)) (.node (some (zo131 P)) (.node (some (zo250 P)) .nil .nil) .nil) (.node (some (zo188 P)) .nil .nil)) (.node (some (zo99 P)) (.node (some (zo163 P)) .nil .nil) (.node (some (zo218 P)) .nil .nil))) (.node (some (zo51 P)) (.node (some (zo83 P)) (.node (some (zo147 P)) .nil .nil) (.node (some (zo202 P)) .nil .nil)) (.node (some (zo115 P)) (.node (some (zo179 P)) .nil .nil) (.node (some (zo234 P)) .nil .nil))))) (.node (some (zo15 P)) (.node none (.node (some (zo31 P)) (.node (some (zo63 P)) (.node (some (zo127 P)) (.node (some (zo246 P)) .nil .nil) .nil) (.node (some (zo184 P)) .nil .nil)) (.node (some (zo95 P)) (.node (some (zo159 P)) .nil .nil) (.node (some (zo214 P)) .nil .nil))) (.node (some (zo47 P)) (.node (some (zo79 P)) (.node (some (zo143 P)) .nil .nil) (.node (some (zo198 P)) .nil .nil)) (.node (some (zo111 P)) (.node (some (zo175 P)) .nil .nil) (.node (some (zo230 P)) .nil .nil)))) (.node (some (zo25 P)) (.node (some (zo39 P)) (.node (some (zo71 P)) (.node (some (zo135 P)) .nil .nil) (.node (some (zo192 P)) .nil .nil)) (.node (some (zo103 P)) (.node (some (zo167 P)) .nil .nil) (.node (some (zo222 P)) .nil .nil))) (.node (some (zo55 P)) (.node (some (zo87 P)) (.node (some (zo151 P)) .nil .nil) (.node (some (zo206 P)) .nil .nil)) (.node (some (zo119 P)) (.node (some (zo183 P)) .nil .nil) (.node (some (zo238 P)) .nil .nil))))))))
noncomputable def qx0 : Str := ⟨#[95, 95, 109, 111, 100, 117, 108, 101, 95, 95]⟩
noncomputable def qx1 : Str := ⟨#[98, 97, 115, 105, 99, 112, 108, 117, 115, 46, 118, 97, 108, 117, 101, 115]⟩
noncomputable def qx2 : Str := ⟨#[95, 95, 113, 117, 97, 108, 110, 97, 109, 101, 95, 95]⟩
noncomputable def qx3 : Str := ⟨#[66, 97, 115, 105, 99, 69, 114, 114, 111, 114]⟩
noncomputable def qx4 : Str := ⟨#[95, 95, 102, 105, 114, 115, 116, 108, 105, 110, 101, 110, 111, 95, 95]⟩
noncomputable def qx5 : Str := ⟨#[95, 95, 105, 110, 105, 116, 95, 95]⟩
noncomputable def qx6 : Str := ⟨#[95, 95, 115, 116, 97, 116, 105, 99, 95, 97, 116, 116, 114, 105, 98, 117, 116, 101, 115, 95, 95]⟩
noncomputable def qx7 : Str := ⟨#[95, 95, 99, 108, 97, 115, 115, 99, 101, 108, 108, 95, 95]⟩
noncomputable def qx8 : Str := ⟨#[47, 99, 108, 97, 105, 109, 47, 99, 117, 116, 46, 112, 121]⟩
noncomputable def qx9 : Str := ⟨#[98, 97, 115, 105, 99, 112, 108, 117, 115, 46, 119, 111, 114, 108, 100]⟩
noncomputable def qx10 : Str := ⟨#[87, 111, 114, 108, 100]⟩
noncomputable def zx16 (_ : Params) : Obj := ⟨(.type "builtin_function_or_method"), none, (.fields #[(.builtin "type.__prepare__"), (.type "type")]), #[]⟩
noncomputable def zx17 (P : Params) : Obj := ⟨(.type "dict"), none, (.dict #[⟨(KH P qx0), (.str qx0 196), (.str qx1 187)⟩, ⟨(KH P qx2), (.str qx2 198), (.str qx3 197)⟩, ⟨(KH P qx4), (.str qx4 200), (.int (.ofNat 2) 199)⟩, ⟨(KH P qx5), (.str qx5 211), (.ref 31)⟩, ⟨(KH P qx6), (.str qx6 214), (.ref 32)⟩, ⟨(KH P qx7), (.str qx7 215), (.ref 18)⟩] 6), #[]⟩
noncomputable def zx19 (_ : Params) : Obj := ⟨(.type "tuple"), none, (.seq #[] 0), #[]⟩
noncomputable def zx20 (_ : Params) : Obj := ⟨.none, none, (.fields #[(.int (.ofNat 4) 0), (.int (.ofNat 4) 0), (.ref 30)]), #[]⟩
noncomputable def zx21 (_ : Params) : Obj := ⟨(.type "code"), none, (.fields #[(.str qx3 191), (.str qx3 192), (.str qx8 193), (.int (.ofNat 2) 0), (.int (.ofNat 0) 0), (.int (.ofNat 0) 0), (.int (.ofNat 0) 0), (.int (.ofNat 0) 0), (.ref 19), (.bool false), (.int (.ofNat 181) 0), (.ref 20), .none, .none, .none, .none, (.int (.ofNat 194) 0), (.int (.ofNat 2) 0), (.str qx8 195)]), #[]⟩
noncomputable def zx22 (_ : Params) : Obj := ⟨(.type "frame"), none, .plain, #[(some (.ref 21)), (some (.ref 3)), (some (.ref 17)), none, (some (.str qx1 187)), none, (some (.ref 0))]⟩
noncomputable def zx36 (_ : Params) : Obj := ⟨(.type "super"), none, (.fields #[(.ref 34), (.ref 34), (.ref 34)]), #[]⟩
noncomputable def zx37 (_ : Params) : Obj := ⟨(.type "builtin_function_or_method"), none, (.fields #[(.builtin "object.__init_subclass__"), (.ref 34)]), #[]⟩
noncomputable def zx191 (_ : Params) : Obj := ⟨(.type "tuple"), none, (.seq #[] 0), #[]⟩
noncomputable def zx192 (_ : Params) : Obj := ⟨(.type "builtin_function_or_method"), none, (.fields #[(.builtin "type.__prepare__"), (.type "type")]), #[]⟩
noncomputable def zx193 (P : Params) : Obj := ⟨(.type "dict"), none, (.dict #[⟨(KH P qx0), (.str qx0 463), (.str qx9 454)⟩, ⟨(KH P qx2), (.str qx2 465), (.str qx10 464)⟩, ⟨(KH P qx4), (.str qx4 467), (.int (.ofNat 147) 466)⟩, ⟨(KH P qx5), (.str qx5 484), (.ref 205)⟩, ⟨(KH P qx6), (.str qx6 513), (.ref 206)⟩] 5), #[]⟩
noncomputable def zx194 (_ : Params) : Obj := ⟨(.type "tuple"), none, (.seq #[] 0), #[]⟩
noncomputable def zx195 (_ : Params) : Obj := ⟨.none, none, (.fields #[(.int (.ofNat 149) 0), (.int (.ofNat 4) 0), (.ref 204)]), #[]⟩
noncomputable def zx196 (_ : Params) : Obj := ⟨(.type "code"), none, (.fields #[(.str qx10 458), (.str qx10 459), (.str qx8 460), (.int (.ofNat 147) 0), (.int (.ofNat 0) 0), (.int (.ofNat 0) 0), (.int (.ofNat 0) 0), (.int (.ofNat 0) 0), (.ref 194), (.bool false), (.int (.ofNat 181) 0), (.ref 195), .none, .none, .none, .none, (.int (.ofNat 461) 0), (.int (.ofNat 147) 0), (.str qx8 462)]), #[]⟩
noncomputable def zx197 (_ : Params) : Obj := ⟨(.type "frame"), none, .plain, #[(some (.ref 196)), (some (.ref 3)), (some (.ref 193)), none, (some (.str qx9 454)), none, (some (.ref 0))]⟩
noncomputable def zx211 (_ : Params) : Obj := ⟨(.type "super"), none, (.fields #[(.ref 208), (.ref 208), (.ref 208)]), #[]⟩
noncomputable def zx212 (_ : Params) : Obj := ⟨(.type "builtin_function_or_method"), none, (.fields #[(.builtin "object.__init_subclass__"), (.ref 208)]), #[]⟩
noncomputable def heapF (P : Params) : Heap := { objs := #[zo1 P, zo2 P, zo3 P, zo4 P, zo5 P, zo6 P, zo7 P, zo8 P, zo9 P, zo10 P, zo11 P, zo12 P, zo13 P, zo14 P, zo15 P, zo16 P, zx16 P, zx17 P, zo17 P, zx19 P, zx20 P, zx21 P, zx22 P, zo18 P, zo19 P, zo20 P, zo21 P, zo22 P, zo23 P, zo24 P, zo25 P, zo26 P, zo27 P, zo28 P, zo29 P, zo30 P, zx36 P, zx37 P, zo31 P, zo32 P, zo33 P, zo34 P, zo35 P, zo36 P, zo37 P, zo38 P, zo39 P, zo40 P, zo41 P, zo42 P, zo43 P, zo44 P, zo45 P, zo46 P, zo47 P, zo48 P, zo49 P, zo50 P, zo51 P, zo52 P, zo53 P, zo54 P, zo55 P, zo56 P, zo57 P, zo58 P, zo59 P, zo60 P, zo61 P, zo62 P, zo63 P, zo64 P, zo65 P, zo66 P, zo67 P, zo68 P, zo69 P, zo70 P, zo71 P, zo72 P, zo73 P, zo74 P, zo75 P, zo76 P, zo77 P, zo78 P, zo79 P, zo80 P, zo81 P, zo82 P, zo83 P, zo84 P, zo85 P, zo86 P, zo87 P, zo88 P, zo89 P, zo90 P, zo91 P, zo92 P, zo93 P, zo94 P, zo95 P, zo96 P, zo97 P, zo98 P, zo99 P, zo100 P, zo101 P, zo102 P, zo103 P, zo104 P, zo105 P, zo106 P, zo107 P, zo108 P, zo109 P, zo110 P, zo111 P, zo112 P, zo113 P, zo114 P, zo115 P, zo116 P, zo117 P, zo118 P, zo119 P, zo120 P, zo121 P, zo122 P, zo123 P, zo124 P, zo125 P, zo126 P, zo127 P, zo128 P, zo129 P, zo130 P, zo131 P, zo132 P, zo133 P, zo134 P, zo135 P, zo136 P, zo137 P, zo138 P, zo139 P, zo140 P, zo141 P, zo142 P, zo143 P, zo144 P, zo145 P, zo146 P, zo147 P, zo148 P, zo149 P, zo150 P, zo151 P, zo152 P, zo153 P, zo154 P, zo155 P, zo156 P, zo157 P, zo158 P, zo159 P, zo160 P, zo161 P, zo162 P, zo163 P, zo164 P, zo165 P, zo166 P, zo167 P, zo168 P, zo169 P, zo170 P, zo171 P, zo172 P, zo173 P, zo174 P, zo175 P, zo176 P, zo177 P, zo178 P, zo179 P, zo180 P, zo181 P, zo182 P, zo183 P, zx191 P, zx192 P, zx193 P, zx194 P, zx195 P, zx196 P, zx197 P, zo184 P, zo185 P, zo186 P, zo187 P, zo188 P, zo189 P, zo190 P, zo191 P, zo192 P, zo193 P, zo194 P, zo195 P, zo196 P, zx211 P, zx212 P, zo197 P, zo198 P, zo199 P, zo200 P, zo201 P, zo202 P, zo203 P, zo204 P, zo205 P, zo206 P, zo207 P, zo208 P, zo209 P, zo210 P, zo211 P, zo212 P, zo213 P, zo214 P, zo215 P, zo216 P, zo217 P, zo218 P, zo219 P, zo220 P, zo221 P, zo222 P, zo223 P, zo224 P, zo225 P, zo226 P, zo227 P, zo228 P, zo229 P, zo230 P, zo231 P, zo232 P, zo233 P, zo234 P, zo235 P, zo236 P, zo237 P, zo238 P, zo239 P, zo240 P, zo241 P, zo242 P, zo243 P, zo244 P, zo245 P, zo246 P, zo247 P, zo248 P, zo249 P, zo250 P] }
end Mine
end
section
open PySem PySem.W PySem.W.X
open Sem (wp)
set_option maxRecDepth 100000
namespace Mine
noncomputable def K0 (w : World) : KT := hk0 w.params
noncomputable def KB (w : World) (sc : Obj) : KT := (K0 w).put 40 267 sc
noncomputable def kH (P : Params) (x : Str) : Int := if x.cps.isEmpty then 0 else reduceHash (P.strHash x.cps)
noncomputable abbrev lawP : Program := PySem.Challenge.rw_pq0140_01.row.prog
noncomputable def lawTA : List Nat := [228, 235, 242]
noncomputable def mkV (w : World) (h : Heap) (os : OsState) : Vx := ⟨lawP, w, h, os, 268, lawTA⟩
noncomputable def lawD : Arguments × List Stmt × Scope := (lawP.theDef PySem.Challenge.rw_pq0140_01.row.name).getD default
noncomputable def lawBody : List Stmt := lawD.2.1
noncomputable def lawEnv (A : Nat → Nat) : Env := { scope := lawD.2.2, locals := A 0 + 268, globals := 3, cells := [], qual := Str.ofString "law.<locals>.", func := some 266, code := .ref 265, frame := some (A 0 + 268), builtins := 0 }
noncomputable def gC : PySem.Ctx := ⟨.builtin "claim.caller" {}, none, none, [], none⟩
noncomputable def cL0 : Code := .call (.ref 266) ⟨[.ref 267], []⟩
noncomputable def g1 (p : Pos) : PySem.Ctx := gC.enter cL0 none p
noncomputable def gL (p : Pos) (A : Nat → Nat) : PySem.Ctx := (g1 p).goto (.func lawBody (lawEnv A))
noncomputable def St0 (P : Params) (A U : Nat → Nat) : List Ent := [(0, A 0 + 268, ⟨.type "frame", none, .dict #[⟨kH P ⟨#[115, 99, 114, 105, 112, 116]⟩, .str ⟨#[115, 99, 114, 105, 112, 116]⟩ (U 0), .ref 267⟩] 1, #[]⟩)]
noncomputable abbrev SW (w : World) : Setting := ⟨lawP, (w.withFollow "special-get-raises" true).params⟩
noncomputable abbrev SW' (w : World) : Setting := ⟨lawP, (w.withFollow "special-get-raises" false).params⟩
noncomputable abbrev lawEv (w : World) (n : Nat) : EvT := ev D1 (SW w) (SW' w) lawTA alt n
end Mine
end
section
open PySem PySem.W PySem.W.X
set_option maxRecDepth 100000
namespace Mine
noncomputable def stB (P : Params) (A U : Nat → Nat) : List Ent := [
  (5, A 5 + 268, ⟨(.type "dict"), none, (.dict #[⟨(kH P ⟨#[98, 105, 116, 115]⟩), (.str ⟨#[98, 105, 116, 115]⟩ (U 10)), (.int (.ofNat 16) 468)⟩, ⟨(kH P ⟨#[100, 105, 103, 105, 116, 115]⟩), (.str ⟨#[100, 105, 103, 105, 116, 115]⟩ (U 12)), (.int (.ofNat 9) 469)⟩, ⟨(kH P ⟨#[109, 111, 115, 116, 95, 115, 116, 101, 112, 115]⟩), (.str ⟨#[109, 111, 115, 116, 95, 115, 116, 101, 112, 115]⟩ (U 14)), (.int (.ofNat 2000) 470)⟩, ⟨(kH P ⟨#[109, 111, 115, 116, 95, 100, 101, 112, 116, 104]⟩), (.str ⟨#[109, 111, 115, 116, 95, 100, 101, 112, 116, 104]⟩ (U 16)), (.int (.ofNat 20) 471)⟩, ⟨(kH P ⟨#[114, 111, 111, 109]⟩), (.str ⟨#[114, 111, 111, 109]⟩ (U 18)), (.int (.ofNat 2000) 472)⟩, ⟨(kH P ⟨#[110, 97, 109, 101, 115]⟩), (.str ⟨#[110, 97, 109, 101, 115]⟩ (U 20)), (.ref (A 8 + 268))⟩, ⟨(kH P ⟨#[97, 114, 114, 97, 121, 115]⟩), (.str ⟨#[97, 114, 114, 97, 121, 115]⟩ (U 22)), (.ref (A 9 + 268))⟩, ⟨(kH P ⟨#[107, 105, 110, 100, 115]⟩), (.str ⟨#[107, 105, 110, 100, 115]⟩ (U 24)), (.ref (A 10 + 268))⟩, ⟨(kH P ⟨#[102, 110, 115]⟩), (.str ⟨#[102, 110, 115]⟩ (U 26)), (.ref (A 11 + 268))⟩, ⟨(kH P ⟨#[111, 117, 116]⟩), (.str ⟨#[111, 117, 116]⟩ (U 28)), (.ref (A 12 + 268))⟩, ⟨(kH P ⟨#[114, 111, 119]⟩), (.str ⟨#[114, 111, 119]⟩ (U 31)), (.str ⟨#[]⟩ (U 29))⟩, ⟨(kH P ⟨#[105, 110, 112, 117, 116, 115]⟩), (.str ⟨#[105, 110, 112, 117, 116, 115]⟩ (U 33)), (.ref (A 13 + 268))⟩, ⟨(kH P ⟨#[102, 105, 108, 101, 115]⟩), (.str ⟨#[102, 105, 108, 101, 115]⟩ (U 35)), (.ref (A 20 + 268))⟩, ⟨(kH P ⟨#[111, 112, 101, 110]⟩), (.str ⟨#[111, 112, 101, 110]⟩ (U 37)), (.ref (A 15 + 268))⟩, ⟨(kH P ⟨#[102, 105, 101, 108, 100, 115]⟩), (.str ⟨#[102, 105, 101, 108, 100, 115]⟩ (U 39)), (.ref (A 16 + 268))⟩, ⟨(kH P ⟨#[100, 97, 116, 97]⟩), (.str ⟨#[100, 97, 116, 97]⟩ (U 41)), (.ref (A 17 + 268))⟩, ⟨(kH P ⟨#[115, 112, 111, 116]⟩), (.str ⟨#[115, 112, 111, 116]⟩ (U 44)), (.int (.ofNat 0) (U 42))⟩, ⟨(kH P ⟨#[98, 97, 115, 101]⟩), (.str ⟨#[98, 97, 115, 101]⟩ (U 47)), (.int (.ofNat 0) (U 45))⟩, ⟨(kH P ⟨#[115, 101, 101, 100]⟩), (.str ⟨#[115, 101, 101, 100]⟩ (U 50)), (.int (.ofNat 1) (U 48))⟩, ⟨(kH P ⟨#[115, 116, 101, 112, 115]⟩), (.str ⟨#[115, 116, 101, 112, 115]⟩ (U 53)), (.int (.ofNat 0) (U 51))⟩, ⟨(kH P ⟨#[100, 101, 112, 116, 104]⟩), (.str ⟨#[100, 101, 112, 116, 104]⟩ (U 56)), (.int (.ofNat 0) (U 54))⟩, ⟨(kH P ⟨#[104, 97, 110, 100, 108, 101, 114]⟩), (.str ⟨#[104, 97, 110, 100, 108, 101, 114]⟩ (U 59)), (.int (.ofNat 0) (U 57))⟩, ⟨(kH P ⟨#[105, 115, 95, 104, 97, 110, 100, 108, 105, 110, 103]⟩), (.str ⟨#[105, 115, 95, 104, 97, 110, 100, 108, 105, 110, 103]⟩ (U 61)), (.bool false)⟩, ⟨(kH P ⟨#[101, 114, 114, 111, 114, 95, 108, 105, 110, 101]⟩), (.str ⟨#[101, 114, 114, 111, 114, 95, 108, 105, 110, 101]⟩ (U 64)), (.int (.ofNat 0) (U 62))⟩, ⟨(kH P ⟨#[101, 114, 114, 111, 114, 95, 99, 111, 100, 101]⟩), (.str ⟨#[101, 114, 114, 111, 114, 95, 99, 111, 100, 101]⟩ (U 67)), (.str ⟨#[]⟩ (U 65))⟩, ⟨(kH P ⟨#[105, 115, 95, 116, 114, 97, 99, 101, 100]⟩), (.str ⟨#[105, 115, 95, 116, 114, 97, 99, 101, 100]⟩ (U 69)), (.bool false)⟩, ⟨(kH P ⟨#[116, 114, 97, 99, 101, 115]⟩), (.str ⟨#[116, 114, 97, 99, 101, 115]⟩ (U 71)), (.ref (A 18 + 268))⟩, ⟨(kH P ⟨#[99, 111, 109, 109, 111, 110]⟩), (.str ⟨#[99, 111, 109, 109, 111, 110]⟩ (U 73)), (.ref (A 19 + 268))⟩] 28), #[]⟩),
  (6, A 6 + 268, ⟨(.ref 208), (some (A 5 + 268)), .plain, #[]⟩),
  (15, A 15 + 268, ⟨(.type "dict"), none, (.dict #[⟨(.ofNat 1), (.int (.ofNat 1) (U 90)), (.ref (A 33 + 268))⟩, ⟨(.ofNat 2), (.int (.ofNat 2) (U 150)), (.ref (A 46 + 268))⟩, ⟨(.ofNat 3), (.int (.ofNat 3) (U 221)), (.ref (A 59 + 268))⟩] 3), #[]⟩),
  (16, A 16 + 268, ⟨(.type "dict"), none, (.dict #[⟨(kH P ⟨#[80, 36]⟩), (.str ⟨#[80, 36]⟩ (U 304)), (.ref (A 97 + 268))⟩, ⟨(kH P ⟨#[81, 36]⟩), (.str ⟨#[81, 36]⟩ (U 306)), (.ref (A 101 + 268))⟩] 2), #[]⟩),
  (20, A 20 + 268, ⟨(.type "dict"), none, (.dict #[⟨(kH P ⟨#[73, 78]⟩), (.str ⟨#[73, 78]⟩ (U 75)), (.str ⟨#[111, 110, 101, 10, 116, 119, 111, 10, 116, 104, 114, 101, 101]⟩ (U 76))⟩, ⟨(kH P ⟨#[79, 85, 84]⟩), (.str ⟨#[79, 85, 84]⟩ (U 77)), (.str ⟨#[119, 10]⟩ (U 416))⟩, ⟨(kH P ⟨#[82, 69, 67]⟩), (.str ⟨#[82, 69, 67]⟩ (U 79)), (.str ⟨#[97, 98, 99, 100, 101, 102, 103, 104]⟩ (U 80))⟩, ⟨(kH P ⟨#[79, 76, 68]⟩), (.str ⟨#[79, 76, 68]⟩ (U 81)), (.str ⟨#[120]⟩ (U 82))⟩] 4), #[]⟩),
  (33, A 33 + 268, ⟨(.type "dict"), none, (.dict #[⟨(kH P ⟨#[109, 111, 100, 101]⟩), (.str ⟨#[109, 111, 100, 101]⟩ (U 131)), (.str ⟨#[73]⟩ (U 89))⟩, ⟨(kH P ⟨#[110, 97, 109, 101]⟩), (.str ⟨#[110, 97, 109, 101]⟩ (U 132)), (.str ⟨#[73, 78]⟩ (U 91))⟩, ⟨(kH P ⟨#[97, 116]⟩), (.str ⟨#[97, 116]⟩ (U 133)), (.int (.ofNat 4) (U 402))⟩, ⟨(kH P ⟨#[115, 105, 122, 101]⟩), (.str ⟨#[115, 105, 122, 101]⟩ (U 134)), (.int (.ofNat 0) (U 92))⟩, ⟨(kH P ⟨#[98, 117, 102, 102, 101, 114]⟩), (.str ⟨#[98, 117, 102, 102, 101, 114]⟩ (U 135)), (.str ⟨#[]⟩ (U 136))⟩, ⟨(kH P ⟨#[114, 101, 99, 111, 114, 100]⟩), (.str ⟨#[114, 101, 99, 111, 114, 100]⟩ (U 137)), (.int (.ofNat 0) (U 138))⟩] 6), #[]⟩),
  (46, A 46 + 268, ⟨(.type "dict"), none, (.dict #[⟨(kH P ⟨#[109, 111, 100, 101]⟩), (.str ⟨#[109, 111, 100, 101]⟩ (U 202)), (.str ⟨#[79]⟩ (U 149))⟩, ⟨(kH P ⟨#[110, 97, 109, 101]⟩), (.str ⟨#[110, 97, 109, 101]⟩ (U 203)), (.str ⟨#[79, 85, 84]⟩ (U 151))⟩, ⟨(kH P ⟨#[97, 116]⟩), (.str ⟨#[97, 116]⟩ (U 204)), (.int (.ofNat 2) (U 445))⟩, ⟨(kH P ⟨#[115, 105, 122, 101]⟩), (.str ⟨#[115, 105, 122, 101]⟩ (U 205)), (.int (.ofNat 0) (U 152))⟩, ⟨(kH P ⟨#[98, 117, 102, 102, 101, 114]⟩), (.str ⟨#[98, 117, 102, 102, 101, 114]⟩ (U 206)), (.str ⟨#[]⟩ (U 207))⟩, ⟨(kH P ⟨#[114, 101, 99, 111, 114, 100]⟩), (.str ⟨#[114, 101, 99, 111, 114, 100]⟩ (U 208)), (.int (.ofNat 0) (U 209))⟩] 6), #[]⟩),
  (59, A 59 + 268, ⟨(.type "dict"), none, (.dict #[⟨(kH P ⟨#[109, 111, 100, 101]⟩), (.str ⟨#[109, 111, 100, 101]⟩ (U 279)), (.str ⟨#[82]⟩ (U 220))⟩, ⟨(kH P ⟨#[110, 97, 109, 101]⟩), (.str ⟨#[110, 97, 109, 101]⟩ (U 280)), (.str ⟨#[82, 69, 67]⟩ (U 222))⟩, ⟨(kH P ⟨#[97, 116]⟩), (.str ⟨#[97, 116]⟩ (U 281)), (.int (.ofNat 0) (U 277))⟩, ⟨(kH P ⟨#[115, 105, 122, 101]⟩), (.str ⟨#[115, 105, 122, 101]⟩ (U 282)), (.int (.ofNat 4) (U 223))⟩, ⟨(kH P ⟨#[98, 117, 102, 102, 101, 114]⟩), (.str ⟨#[98, 117, 102, 102, 101, 114]⟩ (U 283)), (.str ⟨#[101, 102, 103, 104]⟩ (U 491))⟩, ⟨(kH P ⟨#[114, 101, 99, 111, 114, 100]⟩), (.str ⟨#[114, 101, 99, 111, 114, 100]⟩ (U 285)), (.int (.ofNat 2) (U 449))⟩] 6), #[]⟩),
  (97, A 97 + 268, ⟨(.type "tuple"), none, (.seq #[(.int (.ofNat 3) (U 302)), (.int (.ofNat 0) (U 337)), (.int (.ofNat 2) (U 303))] 0), #[]⟩),
  (101, A 101 + 268, ⟨(.type "tuple"), none, (.seq #[(.int (.ofNat 3) (U 302)), (.int (.ofNat 2) (U 343)), (.int (.ofNat 1) (U 305))] 0), #[]⟩),
  (146, A 146 + 268, ⟨(.type "list"), none, (.seq #[(.ref (A 162 + 268)), (.ref (A 177 + 268)), (.ref (A 192 + 268))] 3), #[]⟩),
  (151, A 151 + 268, ⟨(.type "tuple"), none, (.seq #[(.str ⟨#[109, 111, 100, 101]⟩ (U 131)), (.str ⟨#[73]⟩ (U 89))] 0), #[]⟩),
  (152, A 152 + 268, ⟨(.type "tuple"), none, (.seq #[(.str ⟨#[110, 97, 109, 101]⟩ (U 132)), (.str ⟨#[73, 78]⟩ (U 91))] 0), #[]⟩),
  (153, A 153 + 268, ⟨(.type "tuple"), none, (.seq #[(.str ⟨#[97, 116]⟩ (U 133)), (.int (.ofNat 4) (U 402))] 0), #[]⟩),
  (154, A 154 + 268, ⟨(.type "tuple"), none, (.seq #[(.str ⟨#[115, 105, 122, 101]⟩ (U 134)), (.int (.ofNat 0) (U 92))] 0), #[]⟩),
  (155, A 155 + 268, ⟨(.type "tuple"), none, (.seq #[(.str ⟨#[98, 117, 102, 102, 101, 114]⟩ (U 135)), (.str ⟨#[]⟩ (U 136))] 0), #[]⟩),
  (156, A 156 + 268, ⟨(.type "tuple"), none, (.seq #[(.str ⟨#[114, 101, 99, 111, 114, 100]⟩ (U 137)), (.int (.ofNat 0) (U 138))] 0), #[]⟩),
  (159, A 159 + 268, ⟨(.type "list"), none, (.seq #[(.ref (A 153 + 268)), (.ref (A 155 + 268)), (.ref (A 151 + 268)), (.ref (A 152 + 268)), (.ref (A 156 + 268)), (.ref (A 154 + 268))] 2), #[]⟩),
  (162, A 162 + 268, ⟨(.type "tuple"), none, (.seq #[(.int (.ofNat 1) (U 90)), (.ref (A 159 + 268))] 0), #[]⟩),
  (166, A 166 + 268, ⟨(.type "tuple"), none, (.seq #[(.str ⟨#[109, 111, 100, 101]⟩ (U 202)), (.str ⟨#[79]⟩ (U 149))] 0), #[]⟩),
  (167, A 167 + 268, ⟨(.type "tuple"), none, (.seq #[(.str ⟨#[110, 97, 109, 101]⟩ (U 203)), (.str ⟨#[79, 85, 84]⟩ (U 151))] 0), #[]⟩),
  (168, A 168 + 268, ⟨(.type "tuple"), none, (.seq #[(.str ⟨#[97, 116]⟩ (U 204)), (.int (.ofNat 2) (U 445))] 0), #[]⟩),
  (169, A 169 + 268, ⟨(.type "tuple"), none, (.seq #[(.str ⟨#[115, 105, 122, 101]⟩ (U 205)), (.int (.ofNat 0) (U 152))] 0), #[]⟩),
  (170, A 170 + 268, ⟨(.type "tuple"), none, (.seq #[(.str ⟨#[98, 117, 102, 102, 101, 114]⟩ (U 206)), (.str ⟨#[]⟩ (U 207))] 0), #[]⟩),
  (171, A 171 + 268, ⟨(.type "tuple"), none, (.seq #[(.str ⟨#[114, 101, 99, 111, 114, 100]⟩ (U 208)), (.int (.ofNat 0) (U 209))] 0), #[]⟩),
  (174, A 174 + 268, ⟨(.type "list"), none, (.seq #[(.ref (A 168 + 268)), (.ref (A 170 + 268)), (.ref (A 166 + 268)), (.ref (A 167 + 268)), (.ref (A 171 + 268)), (.ref (A 169 + 268))] 2), #[]⟩),
  (177, A 177 + 268, ⟨(.type "tuple"), none, (.seq #[(.int (.ofNat 2) (U 150)), (.ref (A 174 + 268))] 0), #[]⟩),
  (181, A 181 + 268, ⟨(.type "tuple"), none, (.seq #[(.str ⟨#[109, 111, 100, 101]⟩ (U 279)), (.str ⟨#[82]⟩ (U 220))] 0), #[]⟩),
  (182, A 182 + 268, ⟨(.type "tuple"), none, (.seq #[(.str ⟨#[110, 97, 109, 101]⟩ (U 280)), (.str ⟨#[82, 69, 67]⟩ (U 222))] 0), #[]⟩),
  (183, A 183 + 268, ⟨(.type "tuple"), none, (.seq #[(.str ⟨#[97, 116]⟩ (U 281)), (.int (.ofNat 0) (U 277))] 0), #[]⟩),
  (184, A 184 + 268, ⟨(.type "tuple"), none, (.seq #[(.str ⟨#[115, 105, 122, 101]⟩ (U 282)), (.int (.ofNat 4) (U 223))] 0), #[]⟩),
  (185, A 185 + 268, ⟨(.type "tuple"), none, (.seq #[(.str ⟨#[98, 117, 102, 102, 101, 114]⟩ (U 283)), (.str ⟨#[101, 102, 103, 104]⟩ (U 491))] 0), #[]⟩),
  (186, A 186 + 268, ⟨(.type "tuple"), none, (.seq #[(.str ⟨#[114, 101, 99, 111, 114, 100]⟩ (U 285)), (.int (.ofNat 2) (U 449))] 0), #[]⟩),
  (189, A 189 + 268, ⟨(.type "list"), none, (.seq #[(.ref (A 183 + 268)), (.ref (A 185 + 268)), (.ref (A 181 + 268)), (.ref (A 182 + 268)), (.ref (A 186 + 268)), (.ref (A 184 + 268))] 2), #[]⟩),
  (192, A 192 + 268, ⟨(.type "tuple"), none, (.seq #[(.int (.ofNat 3) (U 221)), (.ref (A 189 + 268))] 0), #[]⟩),
  (198, A 198 + 268, ⟨(.type "tuple"), none, (.seq #[(.str ⟨#[73, 78]⟩ (U 75)), (.str ⟨#[111, 110, 101, 10, 116, 119, 111, 10, 116, 104, 114, 101, 101]⟩ (U 76))] 0), #[]⟩),
  (199, A 199 + 268, ⟨(.type "tuple"), none, (.seq #[(.str ⟨#[79, 85, 84]⟩ (U 77)), (.str ⟨#[119, 10]⟩ (U 416))] 0), #[]⟩),
  (200, A 200 + 268, ⟨(.type "tuple"), none, (.seq #[(.str ⟨#[82, 69, 67]⟩ (U 79)), (.str ⟨#[97, 98, 99, 100, 101, 102, 103, 104]⟩ (U 80))] 0), #[]⟩),
  (201, A 201 + 268, ⟨(.type "tuple"), none, (.seq #[(.str ⟨#[79, 76, 68]⟩ (U 81)), (.str ⟨#[120]⟩ (U 82))] 0), #[]⟩),
  (204, A 204 + 268, ⟨(.type "list"), none, (.seq #[(.ref (A 198 + 268)), (.ref (A 201 + 268)), (.ref (A 199 + 268)), (.ref (A 200 + 268))] 2), #[]⟩),
  (210, A 210 + 268, ⟨(.type "tuple"), none, (.seq #[(.str ⟨#[80, 36]⟩ (U 304)), (.ref (A 97 + 268))] 0), #[]⟩),
  (211, A 211 + 268, ⟨(.type "tuple"), none, (.seq #[(.str ⟨#[81, 36]⟩ (U 306)), (.ref (A 101 + 268))] 0), #[]⟩),
  (214, A 214 + 268, ⟨(.type "list"), none, (.seq #[(.ref (A 210 + 268)), (.ref (A 211 + 268))] 2), #[]⟩),
  (217, A 217 + 268, ⟨(.type "tuple"), none, (.seq #[(.ref (A 204 + 268)), (.ref (A 146 + 268)), (.ref (A 214 + 268))] 0), #[]⟩)]
noncomputable def stC (B U2 : Nat → Nat) : List Ent := [
  (1008, B 8 + 268, ⟨(.type "code"), none, (.fields #[(.str ⟨#[60, 108, 97, 109, 98, 100, 97, 62]⟩ (U2 3)), (.str ⟨#[95, 108, 97, 119, 95, 111, 112, 101, 110, 105, 110, 103, 115, 46, 60, 108, 111, 99, 97, 108, 115, 62, 46, 60, 108, 97, 109, 98, 100, 97, 62]⟩ (U2 4)), (.str ⟨#[47, 99, 108, 97, 105, 109, 47, 99, 117, 116, 46, 112, 121]⟩ (U2 5)), (.int (.ofNat 198) 0), (.int (.ofNat 0) 0), (.int (.ofNat 0) 0), (.int (.ofNat 0) 0), (.int (.ofNat 19) 0), (.ref (B 3 + 268)), (.bool true), (.int (.ofNat 181) 0), (.ref (B 4 + 268)), .none, (.ref (B 5 + 268)), (.ref (B 6 + 268)), (.ref (B 7 + 268)), (.int (.ofNat (U2 7)) 0), (.int (.ofNat 198) 0), (.str ⟨#[47, 99, 108, 97, 105, 109, 47, 99, 117, 116, 46, 112, 121]⟩ (U2 8))]), #[]⟩),
  (1017, B 17 + 268, ⟨(.type "code"), none, (.fields #[(.str ⟨#[60, 108, 97, 109, 98, 100, 97, 62]⟩ (U2 10)), (.str ⟨#[95, 108, 97, 119, 95, 111, 112, 101, 110, 105, 110, 103, 115, 46, 60, 108, 111, 99, 97, 108, 115, 62, 46, 60, 108, 97, 109, 98, 100, 97, 62]⟩ (U2 11)), (.str ⟨#[47, 99, 108, 97, 105, 109, 47, 99, 117, 116, 46, 112, 121]⟩ (U2 12)), (.int (.ofNat 199) 0), (.int (.ofNat 0) 0), (.int (.ofNat 0) 0), (.int (.ofNat 0) 0), (.int (.ofNat 19) 0), (.ref (B 12 + 268)), (.bool true), (.int (.ofNat 181) 0), (.ref (B 13 + 268)), .none, (.ref (B 14 + 268)), (.ref (B 15 + 268)), (.ref (B 16 + 268)), (.int (.ofNat (U2 14)) 0), (.int (.ofNat 199) 0), (.str ⟨#[47, 99, 108, 97, 105, 109, 47, 99, 117, 116, 46, 112, 121]⟩ (U2 15))]), #[]⟩),
  (1026, B 26 + 268, ⟨(.type "code"), none, (.fields #[(.str ⟨#[60, 108, 97, 109, 98, 100, 97, 62]⟩ (U2 17)), (.str ⟨#[95, 108, 97, 119, 95, 111, 112, 101, 110, 105, 110, 103, 115, 46, 60, 108, 111, 99, 97, 108, 115, 62, 46, 60, 108, 97, 109, 98, 100, 97, 62]⟩ (U2 18)), (.str ⟨#[47, 99, 108, 97, 105, 109, 47, 99, 117, 116, 46, 112, 121]⟩ (U2 19)), (.int (.ofNat 200) 0), (.int (.ofNat 0) 0), (.int (.ofNat 0) 0), (.int (.ofNat 0) 0), (.int (.ofNat 19) 0), (.ref (B 21 + 268)), (.bool true), (.int (.ofNat 181) 0), (.ref (B 22 + 268)), .none, (.ref (B 23 + 268)), (.ref (B 24 + 268)), (.ref (B 25 + 268)), (.int (.ofNat (U2 21)) 0), (.int (.ofNat 200) 0), (.str ⟨#[47, 99, 108, 97, 105, 109, 47, 99, 117, 116, 46, 112, 121]⟩ (U2 22))]), #[]⟩),
  (1035, B 35 + 268, ⟨(.type "code"), none, (.fields #[(.str ⟨#[60, 108, 97, 109, 98, 100, 97, 62]⟩ (U2 24)), (.str ⟨#[95, 108, 97, 119, 95, 111, 112, 101, 110, 105, 110, 103, 115, 46, 60, 108, 111, 99, 97, 108, 115, 62, 46, 60, 108, 97, 109, 98, 100, 97, 62]⟩ (U2 25)), (.str ⟨#[47, 99, 108, 97, 105, 109, 47, 99, 117, 116, 46, 112, 121]⟩ (U2 26)), (.int (.ofNat 201) 0), (.int (.ofNat 0) 0), (.int (.ofNat 0) 0), (.int (.ofNat 0) 0), (.int (.ofNat 19) 0), (.ref (B 30 + 268)), (.bool true), (.int (.ofNat 181) 0), (.ref (B 31 + 268)), .none, (.ref (B 32 + 268)), (.ref (B 33 + 268)), (.ref (B 34 + 268)), (.int (.ofNat (U2 28)) 0), (.int (.ofNat 201) 0), (.str ⟨#[47, 99, 108, 97, 105, 109, 47, 99, 117, 116, 46, 112, 121]⟩ (U2 29))]), #[]⟩),
  (1044, B 44 + 268, ⟨(.type "code"), none, (.fields #[(.str ⟨#[60, 108, 97, 109, 98, 100, 97, 62]⟩ (U2 31)), (.str ⟨#[95, 108, 97, 119, 95, 111, 112, 101, 110, 105, 110, 103, 115, 46, 60, 108, 111, 99, 97, 108, 115, 62, 46, 60, 108, 97, 109, 98, 100, 97, 62]⟩ (U2 32)), (.str ⟨#[47, 99, 108, 97, 105, 109, 47, 99, 117, 116, 46, 112, 121]⟩ (U2 33)), (.int (.ofNat 202) 0), (.int (.ofNat 0) 0), (.int (.ofNat 0) 0), (.int (.ofNat 0) 0), (.int (.ofNat 19) 0), (.ref (B 39 + 268)), (.bool true), (.int (.ofNat 181) 0), (.ref (B 40 + 268)), .none, (.ref (B 41 + 268)), (.ref (B 42 + 268)), (.ref (B 43 + 268)), (.int (.ofNat (U2 35)) 0), (.int (.ofNat 202) 0), (.str ⟨#[47, 99, 108, 97, 105, 109, 47, 99, 117, 116, 46, 112, 121]⟩ (U2 36))]), #[]⟩),
  (1053, B 53 + 268, ⟨(.type "code"), none, (.fields #[(.str ⟨#[60, 108, 97, 109, 98, 100, 97, 62]⟩ (U2 38)), (.str ⟨#[95, 108, 97, 119, 95, 111, 112, 101, 110, 105, 110, 103, 115, 46, 60, 108, 111, 99, 97, 108, 115, 62, 46, 60, 108, 97, 109, 98, 100, 97, 62]⟩ (U2 39)), (.str ⟨#[47, 99, 108, 97, 105, 109, 47, 99, 117, 116, 46, 112, 121]⟩ (U2 40)), (.int (.ofNat 203) 0), (.int (.ofNat 0) 0), (.int (.ofNat 0) 0), (.int (.ofNat 0) 0), (.int (.ofNat 19) 0), (.ref (B 48 + 268)), (.bool true), (.int (.ofNat 181) 0), (.ref (B 49 + 268)), .none, (.ref (B 50 + 268)), (.ref (B 51 + 268)), (.ref (B 52 + 268)), (.int (.ofNat (U2 42)) 0), (.int (.ofNat 203) 0), (.str ⟨#[47, 99, 108, 97, 105, 109, 47, 99, 117, 116, 46, 112, 121]⟩ (U2 43))]), #[]⟩),
  (1062, B 62 + 268, ⟨(.type "code"), none, (.fields #[(.str ⟨#[60, 108, 97, 109, 98, 100, 97, 62]⟩ (U2 45)), (.str ⟨#[95, 108, 97, 119, 95, 111, 112, 101, 110, 105, 110, 103, 115, 46, 60, 108, 111, 99, 97, 108, 115, 62, 46, 60, 108, 97, 109, 98, 100, 97, 62]⟩ (U2 46)), (.str ⟨#[47, 99, 108, 97, 105, 109, 47, 99, 117, 116, 46, 112, 121]⟩ (U2 47)), (.int (.ofNat 204) 0), (.int (.ofNat 0) 0), (.int (.ofNat 0) 0), (.int (.ofNat 0) 0), (.int (.ofNat 19) 0), (.ref (B 57 + 268)), (.bool true), (.int (.ofNat 181) 0), (.ref (B 58 + 268)), .none, (.ref (B 59 + 268)), (.ref (B 60 + 268)), (.ref (B 61 + 268)), (.int (.ofNat (U2 49)) 0), (.int (.ofNat 204) 0), (.str ⟨#[47, 99, 108, 97, 105, 109, 47, 99, 117, 116, 46, 112, 121]⟩ (U2 50))]), #[]⟩),
  (1071, B 71 + 268, ⟨(.type "code"), none, (.fields #[(.str ⟨#[60, 108, 97, 109, 98, 100, 97, 62]⟩ (U2 52)), (.str ⟨#[95, 108, 97, 119, 95, 111, 112, 101, 110, 105, 110, 103, 115, 46, 60, 108, 111, 99, 97, 108, 115, 62, 46, 60, 108, 97, 109, 98, 100, 97, 62]⟩ (U2 53)), (.str ⟨#[47, 99, 108, 97, 105, 109, 47, 99, 117, 116, 46, 112, 121]⟩ (U2 54)), (.int (.ofNat 205) 0), (.int (.ofNat 0) 0), (.int (.ofNat 0) 0), (.int (.ofNat 0) 0), (.int (.ofNat 19) 0), (.ref (B 66 + 268)), (.bool true), (.int (.ofNat 181) 0), (.ref (B 67 + 268)), .none, (.ref (B 68 + 268)), (.ref (B 69 + 268)), (.ref (B 70 + 268)), (.int (.ofNat (U2 56)) 0), (.int (.ofNat 205) 0), (.str ⟨#[47, 99, 108, 97, 105, 109, 47, 99, 117, 116, 46, 112, 121]⟩ (U2 57))]), #[]⟩),
  (1080, B 80 + 268, ⟨(.type "code"), none, (.fields #[(.str ⟨#[60, 108, 97, 109, 98, 100, 97, 62]⟩ (U2 59)), (.str ⟨#[95, 108, 97, 119, 95, 111, 112, 101, 110, 105, 110, 103, 115, 46, 60, 108, 111, 99, 97, 108, 115, 62, 46, 60, 108, 97, 109, 98, 100, 97, 62]⟩ (U2 60)), (.str ⟨#[47, 99, 108, 97, 105, 109, 47, 99, 117, 116, 46, 112, 121]⟩ (U2 61)), (.int (.ofNat 206) 0), (.int (.ofNat 0) 0), (.int (.ofNat 0) 0), (.int (.ofNat 0) 0), (.int (.ofNat 19) 0), (.ref (B 75 + 268)), (.bool true), (.int (.ofNat 181) 0), (.ref (B 76 + 268)), .none, (.ref (B 77 + 268)), (.ref (B 78 + 268)), (.ref (B 79 + 268)), (.int (.ofNat (U2 63)) 0), (.int (.ofNat 206) 0), (.str ⟨#[47, 99, 108, 97, 105, 109, 47, 99, 117, 116, 46, 112, 121]⟩ (U2 64))]), #[]⟩),
  (1089, B 89 + 268, ⟨(.type "code"), none, (.fields #[(.str ⟨#[60, 108, 97, 109, 98, 100, 97, 62]⟩ (U2 66)), (.str ⟨#[95, 108, 97, 119, 95, 111, 112, 101, 110, 105, 110, 103, 115, 46, 60, 108, 111, 99, 97, 108, 115, 62, 46, 60, 108, 97, 109, 98, 100, 97, 62]⟩ (U2 67)), (.str ⟨#[47, 99, 108, 97, 105, 109, 47, 99, 117, 116, 46, 112, 121]⟩ (U2 68)), (.int (.ofNat 207) 0), (.int (.ofNat 0) 0), (.int (.ofNat 0) 0), (.int (.ofNat 0) 0), (.int (.ofNat 19) 0), (.ref (B 84 + 268)), (.bool true), (.int (.ofNat 181) 0), (.ref (B 85 + 268)), .none, (.ref (B 86 + 268)), (.ref (B 87 + 268)), (.ref (B 88 + 268)), (.int (.ofNat (U2 70)) 0), (.int (.ofNat 207) 0), (.str ⟨#[47, 99, 108, 97, 105, 109, 47, 99, 117, 116, 46, 112, 121]⟩ (U2 71))]), #[]⟩),
  (1098, B 98 + 268, ⟨(.type "code"), none, (.fields #[(.str ⟨#[60, 108, 97, 109, 98, 100, 97, 62]⟩ (U2 73)), (.str ⟨#[95, 108, 97, 119, 95, 111, 112, 101, 110, 105, 110, 103, 115, 46, 60, 108, 111, 99, 97, 108, 115, 62, 46, 60, 108, 97, 109, 98, 100, 97, 62]⟩ (U2 74)), (.str ⟨#[47, 99, 108, 97, 105, 109, 47, 99, 117, 116, 46, 112, 121]⟩ (U2 75)), (.int (.ofNat 208) 0), (.int (.ofNat 0) 0), (.int (.ofNat 0) 0), (.int (.ofNat 0) 0), (.int (.ofNat 19) 0), (.ref (B 93 + 268)), (.bool true), (.int (.ofNat 181) 0), (.ref (B 94 + 268)), .none, (.ref (B 95 + 268)), (.ref (B 96 + 268)), (.ref (B 97 + 268)), (.int (.ofNat (U2 77)) 0), (.int (.ofNat 208) 0), (.str ⟨#[47, 99, 108, 97, 105, 109, 47, 99, 117, 116, 46, 112, 121]⟩ (U2 78))]), #[]⟩),
  (1107, B 107 + 268, ⟨(.type "code"), none, (.fields #[(.str ⟨#[60, 108, 97, 109, 98, 100, 97, 62]⟩ (U2 80)), (.str ⟨#[95, 108, 97, 119, 95, 111, 112, 101, 110, 105, 110, 103, 115, 46, 60, 108, 111, 99, 97, 108, 115, 62, 46, 60, 108, 97, 109, 98, 100, 97, 62]⟩ (U2 81)), (.str ⟨#[47, 99, 108, 97, 105, 109, 47, 99, 117, 116, 46, 112, 121]⟩ (U2 82)), (.int (.ofNat 209) 0), (.int (.ofNat 0) 0), (.int (.ofNat 0) 0), (.int (.ofNat 0) 0), (.int (.ofNat 19) 0), (.ref (B 102 + 268)), (.bool true), (.int (.ofNat 181) 0), (.ref (B 103 + 268)), .none, (.ref (B 104 + 268)), (.ref (B 105 + 268)), (.ref (B 106 + 268)), (.int (.ofNat (U2 84)) 0), (.int (.ofNat 209) 0), (.str ⟨#[47, 99, 108, 97, 105, 109, 47, 99, 117, 116, 46, 112, 121]⟩ (U2 85))]), #[]⟩),
  (1116, B 116 + 268, ⟨(.type "code"), none, (.fields #[(.str ⟨#[60, 108, 97, 109, 98, 100, 97, 62]⟩ (U2 87)), (.str ⟨#[95, 108, 97, 119, 95, 111, 112, 101, 110, 105, 110, 103, 115, 46, 60, 108, 111, 99, 97, 108, 115, 62, 46, 60, 108, 97, 109, 98, 100, 97, 62]⟩ (U2 88)), (.str ⟨#[47, 99, 108, 97, 105, 109, 47, 99, 117, 116, 46, 112, 121]⟩ (U2 89)), (.int (.ofNat 210) 0), (.int (.ofNat 0) 0), (.int (.ofNat 0) 0), (.int (.ofNat 0) 0), (.int (.ofNat 19) 0), (.ref (B 111 + 268)), (.bool true), (.int (.ofNat 181) 0), (.ref (B 112 + 268)), .none, (.ref (B 113 + 268)), (.ref (B 114 + 268)), (.ref (B 115 + 268)), (.int (.ofNat (U2 91)) 0), (.int (.ofNat 210) 0), (.str ⟨#[47, 99, 108, 97, 105, 109, 47, 99, 117, 116, 46, 112, 121]⟩ (U2 92))]), #[]⟩),
  (1125, B 125 + 268, ⟨(.type "code"), none, (.fields #[(.str ⟨#[60, 108, 97, 109, 98, 100, 97, 62]⟩ (U2 94)), (.str ⟨#[95, 108, 97, 119, 95, 111, 112, 101, 110, 105, 110, 103, 115, 46, 60, 108, 111, 99, 97, 108, 115, 62, 46, 60, 108, 97, 109, 98, 100, 97, 62]⟩ (U2 95)), (.str ⟨#[47, 99, 108, 97, 105, 109, 47, 99, 117, 116, 46, 112, 121]⟩ (U2 96)), (.int (.ofNat 211) 0), (.int (.ofNat 0) 0), (.int (.ofNat 0) 0), (.int (.ofNat 0) 0), (.int (.ofNat 19) 0), (.ref (B 120 + 268)), (.bool true), (.int (.ofNat 181) 0), (.ref (B 121 + 268)), .none, (.ref (B 122 + 268)), (.ref (B 123 + 268)), (.ref (B 124 + 268)), (.int (.ofNat (U2 98)) 0), (.int (.ofNat 211) 0), (.str ⟨#[47, 99, 108, 97, 105, 109, 47, 99, 117, 116, 46, 112, 121]⟩ (U2 99))]), #[]⟩),
  (1134, B 134 + 268, ⟨(.type "code"), none, (.fields #[(.str ⟨#[60, 108, 97, 109, 98, 100, 97, 62]⟩ (U2 101)), (.str ⟨#[95, 108, 97, 119, 95, 111, 112, 101, 110, 105, 110, 103, 115, 46, 60, 108, 111, 99, 97, 108, 115, 62, 46, 60, 108, 97, 109, 98, 100, 97, 62]⟩ (U2 102)), (.str ⟨#[47, 99, 108, 97, 105, 109, 47, 99, 117, 116, 46, 112, 121]⟩ (U2 103)), (.int (.ofNat 212) 0), (.int (.ofNat 0) 0), (.int (.ofNat 0) 0), (.int (.ofNat 0) 0), (.int (.ofNat 19) 0), (.ref (B 129 + 268)), (.bool true), (.int (.ofNat 181) 0), (.ref (B 130 + 268)), .none, (.ref (B 131 + 268)), (.ref (B 132 + 268)), (.ref (B 133 + 268)), (.int (.ofNat (U2 105)) 0), (.int (.ofNat 212) 0), (.str ⟨#[47, 99, 108, 97, 105, 109, 47, 99, 117, 116, 46, 112, 121]⟩ (U2 106))]), #[]⟩),
  (1143, B 143 + 268, ⟨(.type "code"), none, (.fields #[(.str ⟨#[60, 108, 97, 109, 98, 100, 97, 62]⟩ (U2 108)), (.str ⟨#[95, 108, 97, 119, 95, 111, 112, 101, 110, 105, 110, 103, 115, 46, 60, 108, 111, 99, 97, 108, 115, 62, 46, 60, 108, 97, 109, 98, 100, 97, 62]⟩ (U2 109)), (.str ⟨#[47, 99, 108, 97, 105, 109, 47, 99, 117, 116, 46, 112, 121]⟩ (U2 110)), (.int (.ofNat 213) 0), (.int (.ofNat 0) 0), (.int (.ofNat 0) 0), (.int (.ofNat 0) 0), (.int (.ofNat 19) 0), (.ref (B 138 + 268)), (.bool true), (.int (.ofNat 181) 0), (.ref (B 139 + 268)), .none, (.ref (B 140 + 268)), (.ref (B 141 + 268)), (.ref (B 142 + 268)), (.int (.ofNat (U2 112)) 0), (.int (.ofNat 213) 0), (.str ⟨#[47, 99, 108, 97, 105, 109, 47, 99, 117, 116, 46, 112, 121]⟩ (U2 113))]), #[]⟩),
  (1155, B 155 + 268, ⟨(.type "code"), none, (.fields #[(.str ⟨#[60, 108, 97, 109, 98, 100, 97, 62]⟩ (U2 115)), (.str ⟨#[95, 108, 97, 119, 95, 114, 111, 119, 115, 46, 60, 108, 111, 99, 97, 108, 115, 62, 46, 60, 108, 97, 109, 98, 100, 97, 62]⟩ (U2 116)), (.str ⟨#[47, 99, 108, 97, 105, 109, 47, 99, 117, 116, 46, 112, 121]⟩ (U2 117)), (.int (.ofNat 216) 0), (.int (.ofNat 0) 0), (.int (.ofNat 0) 0), (.int (.ofNat 0) 0), (.int (.ofNat 19) 0), (.ref (B 150 + 268)), (.bool true), (.int (.ofNat 181) 0), (.ref (B 151 + 268)), .none, (.ref (B 152 + 268)), (.ref (B 153 + 268)), (.ref (B 154 + 268)), (.int (.ofNat (U2 119)) 0), (.int (.ofNat 216) 0), (.str ⟨#[47, 99, 108, 97, 105, 109, 47, 99, 117, 116, 46, 112, 121]⟩ (U2 120))]), #[]⟩),
  (1164, B 164 + 268, ⟨(.type "code"), none, (.fields #[(.str ⟨#[60, 108, 97, 109, 98, 100, 97, 62]⟩ (U2 122)), (.str ⟨#[95, 108, 97, 119, 95, 114, 111, 119, 115, 46, 60, 108, 111, 99, 97, 108, 115, 62, 46, 60, 108, 97, 109, 98, 100, 97, 62]⟩ (U2 123)), (.str ⟨#[47, 99, 108, 97, 105, 109, 47, 99, 117, 116, 46, 112, 121]⟩ (U2 124)), (.int (.ofNat 217) 0), (.int (.ofNat 0) 0), (.int (.ofNat 0) 0), (.int (.ofNat 0) 0), (.int (.ofNat 19) 0), (.ref (B 159 + 268)), (.bool true), (.int (.ofNat 181) 0), (.ref (B 160 + 268)), .none, (.ref (B 161 + 268)), (.ref (B 162 + 268)), (.ref (B 163 + 268)), (.int (.ofNat (U2 126)) 0), (.int (.ofNat 217) 0), (.str ⟨#[47, 99, 108, 97, 105, 109, 47, 99, 117, 116, 46, 112, 121]⟩ (U2 127))]), #[]⟩),
  (1173, B 173 + 268, ⟨(.type "code"), none, (.fields #[(.str ⟨#[60, 108, 97, 109, 98, 100, 97, 62]⟩ (U2 129)), (.str ⟨#[95, 108, 97, 119, 95, 114, 111, 119, 115, 46, 60, 108, 111, 99, 97, 108, 115, 62, 46, 60, 108, 97, 109, 98, 100, 97, 62]⟩ (U2 130)), (.str ⟨#[47, 99, 108, 97, 105, 109, 47, 99, 117, 116, 46, 112, 121]⟩ (U2 131)), (.int (.ofNat 218) 0), (.int (.ofNat 0) 0), (.int (.ofNat 0) 0), (.int (.ofNat 0) 0), (.int (.ofNat 19) 0), (.ref (B 168 + 268)), (.bool true), (.int (.ofNat 181) 0), (.ref (B 169 + 268)), .none, (.ref (B 170 + 268)), (.ref (B 171 + 268)), (.ref (B 172 + 268)), (.int (.ofNat (U2 133)) 0), (.int (.ofNat 218) 0), (.str ⟨#[47, 99, 108, 97, 105, 109, 47, 99, 117, 116, 46, 112, 121]⟩ (U2 134))]), #[]⟩),
  (1182, B 182 + 268, ⟨(.type "code"), none, (.fields #[(.str ⟨#[60, 108, 97, 109, 98, 100, 97, 62]⟩ (U2 136)), (.str ⟨#[95, 108, 97, 119, 95, 114, 111, 119, 115, 46, 60, 108, 111, 99, 97, 108, 115, 62, 46, 60, 108, 97, 109, 98, 100, 97, 62]⟩ (U2 137)), (.str ⟨#[47, 99, 108, 97, 105, 109, 47, 99, 117, 116, 46, 112, 121]⟩ (U2 138)), (.int (.ofNat 219) 0), (.int (.ofNat 0) 0), (.int (.ofNat 0) 0), (.int (.ofNat 0) 0), (.int (.ofNat 19) 0), (.ref (B 177 + 268)), (.bool true), (.int (.ofNat 181) 0), (.ref (B 178 + 268)), .none, (.ref (B 179 + 268)), (.ref (B 180 + 268)), (.ref (B 181 + 268)), (.int (.ofNat (U2 140)) 0), (.int (.ofNat 219) 0), (.str ⟨#[47, 99, 108, 97, 105, 109, 47, 99, 117, 116, 46, 112, 121]⟩ (U2 141))]), #[]⟩),
  (1191, B 191 + 268, ⟨(.type "code"), none, (.fields #[(.str ⟨#[60, 108, 97, 109, 98, 100, 97, 62]⟩ (U2 143)), (.str ⟨#[95, 108, 97, 119, 95, 114, 111, 119, 115, 46, 60, 108, 111, 99, 97, 108, 115, 62, 46, 60, 108, 97, 109, 98, 100, 97, 62]⟩ (U2 144)), (.str ⟨#[47, 99, 108, 97, 105, 109, 47, 99, 117, 116, 46, 112, 121]⟩ (U2 145)), (.int (.ofNat 220) 0), (.int (.ofNat 0) 0), (.int (.ofNat 0) 0), (.int (.ofNat 0) 0), (.int (.ofNat 19) 0), (.ref (B 186 + 268)), (.bool true), (.int (.ofNat 181) 0), (.ref (B 187 + 268)), .none, (.ref (B 188 + 268)), (.ref (B 189 + 268)), (.ref (B 190 + 268)), (.int (.ofNat (U2 147)) 0), (.int (.ofNat 220) 0), (.str ⟨#[47, 99, 108, 97, 105, 109, 47, 99, 117, 116, 46, 112, 121]⟩ (U2 148))]), #[]⟩),
  (1200, B 200 + 268, ⟨(.type "code"), none, (.fields #[(.str ⟨#[60, 108, 97, 109, 98, 100, 97, 62]⟩ (U2 150)), (.str ⟨#[95, 108, 97, 119, 95, 114, 111, 119, 115, 46, 60, 108, 111, 99, 97, 108, 115, 62, 46, 60, 108, 97, 109, 98, 100, 97, 62]⟩ (U2 151)), (.str ⟨#[47, 99, 108, 97, 105, 109, 47, 99, 117, 116, 46, 112, 121]⟩ (U2 152)), (.int (.ofNat 221) 0), (.int (.ofNat 0) 0), (.int (.ofNat 0) 0), (.int (.ofNat 0) 0), (.int (.ofNat 19) 0), (.ref (B 195 + 268)), (.bool true), (.int (.ofNat 181) 0), (.ref (B 196 + 268)), .none, (.ref (B 197 + 268)), (.ref (B 198 + 268)), (.ref (B 199 + 268)), (.int (.ofNat (U2 154)) 0), (.int (.ofNat 221) 0), (.str ⟨#[47, 99, 108, 97, 105, 109, 47, 99, 117, 116, 46, 112, 121]⟩ (U2 155))]), #[]⟩),
  (1209, B 209 + 268, ⟨(.type "code"), none, (.fields #[(.str ⟨#[60, 108, 97, 109, 98, 100, 97, 62]⟩ (U2 157)), (.str ⟨#[95, 108, 97, 119, 95, 114, 111, 119, 115, 46, 60, 108, 111, 99, 97, 108, 115, 62, 46, 60, 108, 97, 109, 98, 100, 97, 62]⟩ (U2 158)), (.str ⟨#[47, 99, 108, 97, 105, 109, 47, 99, 117, 116, 46, 112, 121]⟩ (U2 159)), (.int (.ofNat 222) 0), (.int (.ofNat 0) 0), (.int (.ofNat 0) 0), (.int (.ofNat 0) 0), (.int (.ofNat 19) 0), (.ref (B 204 + 268)), (.bool true), (.int (.ofNat 181) 0), (.ref (B 205 + 268)), .none, (.ref (B 206 + 268)), (.ref (B 207 + 268)), (.ref (B 208 + 268)), (.int (.ofNat (U2 161)) 0), (.int (.ofNat 222) 0), (.str ⟨#[47, 99, 108, 97, 105, 109, 47, 99, 117, 116, 46, 112, 121]⟩ (U2 162))]), #[]⟩),
  (1218, B 218 + 268, ⟨(.type "code"), none, (.fields #[(.str ⟨#[60, 108, 97, 109, 98, 100, 97, 62]⟩ (U2 164)), (.str ⟨#[95, 108, 97, 119, 95, 114, 111, 119, 115, 46, 60, 108, 111, 99, 97, 108, 115, 62, 46, 60, 108, 97, 109, 98, 100, 97, 62]⟩ (U2 165)), (.str ⟨#[47, 99, 108, 97, 105, 109, 47, 99, 117, 116, 46, 112, 121]⟩ (U2 166)), (.int (.ofNat 223) 0), (.int (.ofNat 0) 0), (.int (.ofNat 0) 0), (.int (.ofNat 0) 0), (.int (.ofNat 19) 0), (.ref (B 213 + 268)), (.bool true), (.int (.ofNat 181) 0), (.ref (B 214 + 268)), .none, (.ref (B 215 + 268)), (.ref (B 216 + 268)), (.ref (B 217 + 268)), (.int (.ofNat (U2 168)) 0), (.int (.ofNat 223) 0), (.str ⟨#[47, 99, 108, 97, 105, 109, 47, 99, 117, 116, 46, 112, 121]⟩ (U2 169))]), #[]⟩),
  (1227, B 227 + 268, ⟨(.type "code"), none, (.fields #[(.str ⟨#[60, 108, 97, 109, 98, 100, 97, 62]⟩ (U2 171)), (.str ⟨#[95, 108, 97, 119, 95, 114, 111, 119, 115, 46, 60, 108, 111, 99, 97, 108, 115, 62, 46, 60, 108, 97, 109, 98, 100, 97, 62]⟩ (U2 172)), (.str ⟨#[47, 99, 108, 97, 105, 109, 47, 99, 117, 116, 46, 112, 121]⟩ (U2 173)), (.int (.ofNat 224) 0), (.int (.ofNat 0) 0), (.int (.ofNat 0) 0), (.int (.ofNat 0) 0), (.int (.ofNat 19) 0), (.ref (B 222 + 268)), (.bool true), (.int (.ofNat 181) 0), (.ref (B 223 + 268)), .none, (.ref (B 224 + 268)), (.ref (B 225 + 268)), (.ref (B 226 + 268)), (.int (.ofNat (U2 175)) 0), (.int (.ofNat 224) 0), (.str ⟨#[47, 99, 108, 97, 105, 109, 47, 99, 117, 116, 46, 112, 121]⟩ (U2 176))]), #[]⟩),
  (1236, B 236 + 268, ⟨(.type "code"), none, (.fields #[(.str ⟨#[60, 108, 97, 109, 98, 100, 97, 62]⟩ (U2 178)), (.str ⟨#[95, 108, 97, 119, 95, 114, 111, 119, 115, 46, 60, 108, 111, 99, 97, 108, 115, 62, 46, 60, 108, 97, 109, 98, 100, 97, 62]⟩ (U2 179)), (.str ⟨#[47, 99, 108, 97, 105, 109, 47, 99, 117, 116, 46, 112, 121]⟩ (U2 180)), (.int (.ofNat 225) 0), (.int (.ofNat 0) 0), (.int (.ofNat 0) 0), (.int (.ofNat 0) 0), (.int (.ofNat 19) 0), (.ref (B 231 + 268)), (.bool true), (.int (.ofNat 181) 0), (.ref (B 232 + 268)), .none, (.ref (B 233 + 268)), (.ref (B 234 + 268)), (.ref (B 235 + 268)), (.int (.ofNat (U2 182)) 0), (.int (.ofNat 225) 0), (.str ⟨#[47, 99, 108, 97, 105, 109, 47, 99, 117, 116, 46, 112, 121]⟩ (U2 183))]), #[]⟩),
  (1245, B 245 + 268, ⟨(.type "code"), none, (.fields #[(.str ⟨#[60, 108, 97, 109, 98, 100, 97, 62]⟩ (U2 185)), (.str ⟨#[95, 108, 97, 119, 95, 114, 111, 119, 115, 46, 60, 108, 111, 99, 97, 108, 115, 62, 46, 60, 108, 97, 109, 98, 100, 97, 62]⟩ (U2 186)), (.str ⟨#[47, 99, 108, 97, 105, 109, 47, 99, 117, 116, 46, 112, 121]⟩ (U2 187)), (.int (.ofNat 226) 0), (.int (.ofNat 0) 0), (.int (.ofNat 0) 0), (.int (.ofNat 0) 0), (.int (.ofNat 19) 0), (.ref (B 240 + 268)), (.bool true), (.int (.ofNat 181) 0), (.ref (B 241 + 268)), .none, (.ref (B 242 + 268)), (.ref (B 243 + 268)), (.ref (B 244 + 268)), (.int (.ofNat (U2 189)) 0), (.int (.ofNat 226) 0), (.str ⟨#[47, 99, 108, 97, 105, 109, 47, 99, 117, 116, 46, 112, 121]⟩ (U2 190))]), #[]⟩),
  (1254, B 254 + 268, ⟨(.type "code"), none, (.fields #[(.str ⟨#[60, 108, 97, 109, 98, 100, 97, 62]⟩ (U2 192)), (.str ⟨#[95, 108, 97, 119, 95, 114, 111, 119, 115, 46, 60, 108, 111, 99, 97, 108, 115, 62, 46, 60, 108, 97, 109, 98, 100, 97, 62]⟩ (U2 193)), (.str ⟨#[47, 99, 108, 97, 105, 109, 47, 99, 117, 116, 46, 112, 121]⟩ (U2 194)), (.int (.ofNat 227) 0), (.int (.ofNat 0) 0), (.int (.ofNat 0) 0), (.int (.ofNat 0) 0), (.int (.ofNat 19) 0), (.ref (B 249 + 268)), (.bool true), (.int (.ofNat 181) 0), (.ref (B 250 + 268)), .none, (.ref (B 251 + 268)), (.ref (B 252 + 268)), (.ref (B 253 + 268)), (.int (.ofNat (U2 196)) 0), (.int (.ofNat 227) 0), (.str ⟨#[47, 99, 108, 97, 105, 109, 47, 99, 117, 116, 46, 112, 121]⟩ (U2 197))]), #[]⟩),
  (1263, B 263 + 268, ⟨(.type "code"), none, (.fields #[(.str ⟨#[60, 108, 97, 109, 98, 100, 97, 62]⟩ (U2 199)), (.str ⟨#[95, 108, 97, 119, 95, 114, 111, 119, 115, 46, 60, 108, 111, 99, 97, 108, 115, 62, 46, 60, 108, 97, 109, 98, 100, 97, 62]⟩ (U2 200)), (.str ⟨#[47, 99, 108, 97, 105, 109, 47, 99, 117, 116, 46, 112, 121]⟩ (U2 201)), (.int (.ofNat 228) 0), (.int (.ofNat 0) 0), (.int (.ofNat 0) 0), (.int (.ofNat 0) 0), (.int (.ofNat 19) 0), (.ref (B 258 + 268)), (.bool true), (.int (.ofNat 181) 0), (.ref (B 259 + 268)), .none, (.ref (B 260 + 268)), (.ref (B 261 + 268)), (.ref (B 262 + 268)), (.int (.ofNat (U2 203)) 0), (.int (.ofNat 228) 0), (.str ⟨#[47, 99, 108, 97, 105, 109, 47, 99, 117, 116, 46, 112, 121]⟩ (U2 204))]), #[]⟩),
  (1272, B 272 + 268, ⟨(.type "code"), none, (.fields #[(.str ⟨#[60, 108, 97, 109, 98, 100, 97, 62]⟩ (U2 206)), (.str ⟨#[95, 108, 97, 119, 95, 114, 111, 119, 115, 46, 60, 108, 111, 99, 97, 108, 115, 62, 46, 60, 108, 97, 109, 98, 100, 97, 62]⟩ (U2 207)), (.str ⟨#[47, 99, 108, 97, 105, 109, 47, 99, 117, 116, 46, 112, 121]⟩ (U2 208)), (.int (.ofNat 229) 0), (.int (.ofNat 0) 0), (.int (.ofNat 0) 0), (.int (.ofNat 0) 0), (.int (.ofNat 19) 0), (.ref (B 267 + 268)), (.bool true), (.int (.ofNat 181) 0), (.ref (B 268 + 268)), .none, (.ref (B 269 + 268)), (.ref (B 270 + 268)), (.ref (B 271 + 268)), (.int (.ofNat (U2 210)) 0), (.int (.ofNat 229) 0), (.str ⟨#[47, 99, 108, 97, 105, 109, 47, 99, 117, 116, 46, 112, 121]⟩ (U2 211))]), #[]⟩),
  (1281, B 281 + 268, ⟨(.type "code"), none, (.fields #[(.str ⟨#[60, 108, 97, 109, 98, 100, 97, 62]⟩ (U2 213)), (.str ⟨#[95, 108, 97, 119, 95, 114, 111, 119, 115, 46, 60, 108, 111, 99, 97, 108, 115, 62, 46, 60, 108, 97, 109, 98, 100, 97, 62]⟩ (U2 214)), (.str ⟨#[47, 99, 108, 97, 105, 109, 47, 99, 117, 116, 46, 112, 121]⟩ (U2 215)), (.int (.ofNat 230) 0), (.int (.ofNat 0) 0), (.int (.ofNat 0) 0), (.int (.ofNat 0) 0), (.int (.ofNat 19) 0), (.ref (B 276 + 268)), (.bool true), (.int (.ofNat 181) 0), (.ref (B 277 + 268)), .none, (.ref (B 278 + 268)), (.ref (B 279 + 268)), (.ref (B 280 + 268)), (.int (.ofNat (U2 217)) 0), (.int (.ofNat 230) 0), (.str ⟨#[47, 99, 108, 97, 105, 109, 47, 99, 117, 116, 46, 112, 121]⟩ (U2 218))]), #[]⟩),
  (1290, B 290 + 268, ⟨(.type "code"), none, (.fields #[(.str ⟨#[60, 108, 97, 109, 98, 100, 97, 62]⟩ (U2 220)), (.str ⟨#[95, 108, 97, 119, 95, 114, 111, 119, 115, 46, 60, 108, 111, 99, 97, 108, 115, 62, 46, 60, 108, 97, 109, 98, 100, 97, 62]⟩ (U2 221)), (.str ⟨#[47, 99, 108, 97, 105, 109, 47, 99, 117, 116, 46, 112, 121]⟩ (U2 222)), (.int (.ofNat 231) 0), (.int (.ofNat 0) 0), (.int (.ofNat 0) 0), (.int (.ofNat 0) 0), (.int (.ofNat 19) 0), (.ref (B 285 + 268)), (.bool true), (.int (.ofNat 181) 0), (.ref (B 286 + 268)), .none, (.ref (B 287 + 268)), (.ref (B 288 + 268)), (.ref (B 289 + 268)), (.int (.ofNat (U2 224)) 0), (.int (.ofNat 231) 0), (.str ⟨#[47, 99, 108, 97, 105, 109, 47, 99, 117, 116, 46, 112, 121]⟩ (U2 225))]), #[]⟩),
  (1299, B 299 + 268, ⟨(.type "code"), none, (.fields #[(.str ⟨#[60, 108, 97, 109, 98, 100, 97, 62]⟩ (U2 227)), (.str ⟨#[95, 108, 97, 119, 95, 114, 111, 119, 115, 46, 60, 108, 111, 99, 97, 108, 115, 62, 46, 60, 108, 97, 109, 98, 100, 97, 62]⟩ (U2 228)), (.str ⟨#[47, 99, 108, 97, 105, 109, 47, 99, 117, 116, 46, 112, 121]⟩ (U2 229)), (.int (.ofNat 232) 0), (.int (.ofNat 0) 0), (.int (.ofNat 0) 0), (.int (.ofNat 0) 0), (.int (.ofNat 19) 0), (.ref (B 294 + 268)), (.bool true), (.int (.ofNat 181) 0), (.ref (B 295 + 268)), .none, (.ref (B 296 + 268)), (.ref (B 297 + 268)), (.ref (B 298 + 268)), (.int (.ofNat (U2 231)) 0), (.int (.ofNat 232) 0), (.str ⟨#[47, 99, 108, 97, 105, 109, 47, 99, 117, 116, 46, 112, 121]⟩ (U2 232))]), #[]⟩),
  (1312, B 312 + 268, ⟨(.type "code"), none, (.fields #[(.str ⟨#[60, 108, 97, 109, 98, 100, 97, 62]⟩ (U2 234)), (.str ⟨#[95, 108, 97, 119, 95, 114, 101, 99, 111, 114, 100, 115, 46, 60, 108, 111, 99, 97, 108, 115, 62, 46, 60, 108, 97, 109, 98, 100, 97, 62]⟩ (U2 235)), (.str ⟨#[47, 99, 108, 97, 105, 109, 47, 99, 117, 116, 46, 112, 121]⟩ (U2 236)), (.int (.ofNat 235) 0), (.int (.ofNat 0) 0), (.int (.ofNat 0) 0), (.int (.ofNat 0) 0), (.int (.ofNat 19) 0), (.ref (B 307 + 268)), (.bool true), (.int (.ofNat 181) 0), (.ref (B 308 + 268)), .none, (.ref (B 309 + 268)), (.ref (B 310 + 268)), (.ref (B 311 + 268)), (.int (.ofNat (U2 238)) 0), (.int (.ofNat 235) 0), (.str ⟨#[47, 99, 108, 97, 105, 109, 47, 99, 117, 116, 46, 112, 121]⟩ (U2 239))]), #[]⟩),
  (1321, B 321 + 268, ⟨(.type "code"), none, (.fields #[(.str ⟨#[60, 108, 97, 109, 98, 100, 97, 62]⟩ (U2 241)), (.str ⟨#[95, 108, 97, 119, 95, 114, 101, 99, 111, 114, 100, 115, 46, 60, 108, 111, 99, 97, 108, 115, 62, 46, 60, 108, 97, 109, 98, 100, 97, 62]⟩ (U2 242)), (.str ⟨#[47, 99, 108, 97, 105, 109, 47, 99, 117, 116, 46, 112, 121]⟩ (U2 243)), (.int (.ofNat 236) 0), (.int (.ofNat 0) 0), (.int (.ofNat 0) 0), (.int (.ofNat 0) 0), (.int (.ofNat 19) 0), (.ref (B 316 + 268)), (.bool true), (.int (.ofNat 181) 0), (.ref (B 317 + 268)), .none, (.ref (B 318 + 268)), (.ref (B 319 + 268)), (.ref (B 320 + 268)), (.int (.ofNat (U2 245)) 0), (.int (.ofNat 236) 0), (.str ⟨#[47, 99, 108, 97, 105, 109, 47, 99, 117, 116, 46, 112, 121]⟩ (U2 246))]), #[]⟩),
  (1330, B 330 + 268, ⟨(.type "code"), none, (.fields #[(.str ⟨#[60, 108, 97, 109, 98, 100, 97, 62]⟩ (U2 248)), (.str ⟨#[95, 108, 97, 119, 95, 114, 101, 99, 111, 114, 100, 115, 46, 60, 108, 111, 99, 97, 108, 115, 62, 46, 60, 108, 97, 109, 98, 100, 97, 62]⟩ (U2 249)), (.str ⟨#[47, 99, 108, 97, 105, 109, 47, 99, 117, 116, 46, 112, 121]⟩ (U2 250)), (.int (.ofNat 237) 0), (.int (.ofNat 0) 0), (.int (.ofNat 0) 0), (.int (.ofNat 0) 0), (.int (.ofNat 19) 0), (.ref (B 325 + 268)), (.bool true), (.int (.ofNat 181) 0), (.ref (B 326 + 268)), .none, (.ref (B 327 + 268)), (.ref (B 328 + 268)), (.ref (B 329 + 268)), (.int (.ofNat (U2 252)) 0), (.int (.ofNat 237) 0), (.str ⟨#[47, 99, 108, 97, 105, 109, 47, 99, 117, 116, 46, 112, 121]⟩ (U2 253))]), #[]⟩),
  (1339, B 339 + 268, ⟨(.type "code"), none, (.fields #[(.str ⟨#[60, 108, 97, 109, 98, 100, 97, 62]⟩ (U2 255)), (.str ⟨#[95, 108, 97, 119, 95, 114, 101, 99, 111, 114, 100, 115, 46, 60, 108, 111, 99, 97, 108, 115, 62, 46, 60, 108, 97, 109, 98, 100, 97, 62]⟩ (U2 256)), (.str ⟨#[47, 99, 108, 97, 105, 109, 47, 99, 117, 116, 46, 112, 121]⟩ (U2 257)), (.int (.ofNat 238) 0), (.int (.ofNat 0) 0), (.int (.ofNat 0) 0), (.int (.ofNat 0) 0), (.int (.ofNat 19) 0), (.ref (B 334 + 268)), (.bool true), (.int (.ofNat 181) 0), (.ref (B 335 + 268)), .none, (.ref (B 336 + 268)), (.ref (B 337 + 268)), (.ref (B 338 + 268)), (.int (.ofNat (U2 259)) 0), (.int (.ofNat 238) 0), (.str ⟨#[47, 99, 108, 97, 105, 109, 47, 99, 117, 116, 46, 112, 121]⟩ (U2 260))]), #[]⟩),
  (1348, B 348 + 268, ⟨(.type "code"), none, (.fields #[(.str ⟨#[60, 108, 97, 109, 98, 100, 97, 62]⟩ (U2 262)), (.str ⟨#[95, 108, 97, 119, 95, 114, 101, 99, 111, 114, 100, 115, 46, 60, 108, 111, 99, 97, 108, 115, 62, 46, 60, 108, 97, 109, 98, 100, 97, 62]⟩ (U2 263)), (.str ⟨#[47, 99, 108, 97, 105, 109, 47, 99, 117, 116, 46, 112, 121]⟩ (U2 264)), (.int (.ofNat 239) 0), (.int (.ofNat 0) 0), (.int (.ofNat 0) 0), (.int (.ofNat 0) 0), (.int (.ofNat 19) 0), (.ref (B 343 + 268)), (.bool true), (.int (.ofNat 181) 0), (.ref (B 344 + 268)), .none, (.ref (B 345 + 268)), (.ref (B 346 + 268)), (.ref (B 347 + 268)), (.int (.ofNat (U2 266)) 0), (.int (.ofNat 239) 0), (.str ⟨#[47, 99, 108, 97, 105, 109, 47, 99, 117, 116, 46, 112, 121]⟩ (U2 267))]), #[]⟩),
  (1357, B 357 + 268, ⟨(.type "code"), none, (.fields #[(.str ⟨#[60, 108, 97, 109, 98, 100, 97, 62]⟩ (U2 269)), (.str ⟨#[95, 108, 97, 119, 95, 114, 101, 99, 111, 114, 100, 115, 46, 60, 108, 111, 99, 97, 108, 115, 62, 46, 60, 108, 97, 109, 98, 100, 97, 62]⟩ (U2 270)), (.str ⟨#[47, 99, 108, 97, 105, 109, 47, 99, 117, 116, 46, 112, 121]⟩ (U2 271)), (.int (.ofNat 240) 0), (.int (.ofNat 0) 0), (.int (.ofNat 0) 0), (.int (.ofNat 0) 0), (.int (.ofNat 19) 0), (.ref (B 352 + 268)), (.bool true), (.int (.ofNat 181) 0), (.ref (B 353 + 268)), .none, (.ref (B 354 + 268)), (.ref (B 355 + 268)), (.ref (B 356 + 268)), (.int (.ofNat (U2 273)) 0), (.int (.ofNat 240) 0), (.str ⟨#[47, 99, 108, 97, 105, 109, 47, 99, 117, 116, 46, 112, 121]⟩ (U2 274))]), #[]⟩),
  (1366, B 366 + 268, ⟨(.type "code"), none, (.fields #[(.str ⟨#[60, 108, 97, 109, 98, 100, 97, 62]⟩ (U2 276)), (.str ⟨#[95, 108, 97, 119, 95, 114, 101, 99, 111, 114, 100, 115, 46, 60, 108, 111, 99, 97, 108, 115, 62, 46, 60, 108, 97, 109, 98, 100, 97, 62]⟩ (U2 277)), (.str ⟨#[47, 99, 108, 97, 105, 109, 47, 99, 117, 116, 46, 112, 121]⟩ (U2 278)), (.int (.ofNat 241) 0), (.int (.ofNat 0) 0), (.int (.ofNat 0) 0), (.int (.ofNat 0) 0), (.int (.ofNat 19) 0), (.ref (B 361 + 268)), (.bool true), (.int (.ofNat 181) 0), (.ref (B 362 + 268)), .none, (.ref (B 363 + 268)), (.ref (B 364 + 268)), (.ref (B 365 + 268)), (.int (.ofNat (U2 280)) 0), (.int (.ofNat 241) 0), (.str ⟨#[47, 99, 108, 97, 105, 109, 47, 99, 117, 116, 46, 112, 121]⟩ (U2 281))]), #[]⟩),
  (1375, B 375 + 268, ⟨(.type "code"), none, (.fields #[(.str ⟨#[60, 108, 97, 109, 98, 100, 97, 62]⟩ (U2 283)), (.str ⟨#[95, 108, 97, 119, 95, 114, 101, 99, 111, 114, 100, 115, 46, 60, 108, 111, 99, 97, 108, 115, 62, 46, 60, 108, 97, 109, 98, 100, 97, 62]⟩ (U2 284)), (.str ⟨#[47, 99, 108, 97, 105, 109, 47, 99, 117, 116, 46, 112, 121]⟩ (U2 285)), (.int (.ofNat 242) 0), (.int (.ofNat 0) 0), (.int (.ofNat 0) 0), (.int (.ofNat 0) 0), (.int (.ofNat 19) 0), (.ref (B 370 + 268)), (.bool true), (.int (.ofNat 181) 0), (.ref (B 371 + 268)), .none, (.ref (B 372 + 268)), (.ref (B 373 + 268)), (.ref (B 374 + 268)), (.int (.ofNat (U2 287)) 0), (.int (.ofNat 242) 0), (.str ⟨#[47, 99, 108, 97, 105, 109, 47, 99, 117, 116, 46, 112, 121]⟩ (U2 288))]), #[]⟩),
  (1384, B 384 + 268, ⟨(.type "code"), none, (.fields #[(.str ⟨#[60, 108, 97, 109, 98, 100, 97, 62]⟩ (U2 290)), (.str ⟨#[95, 108, 97, 119, 95, 114, 101, 99, 111, 114, 100, 115, 46, 60, 108, 111, 99, 97, 108, 115, 62, 46, 60, 108, 97, 109, 98, 100, 97, 62]⟩ (U2 291)), (.str ⟨#[47, 99, 108, 97, 105, 109, 47, 99, 117, 116, 46, 112, 121]⟩ (U2 292)), (.int (.ofNat 243) 0), (.int (.ofNat 0) 0), (.int (.ofNat 0) 0), (.int (.ofNat 0) 0), (.int (.ofNat 19) 0), (.ref (B 379 + 268)), (.bool true), (.int (.ofNat 181) 0), (.ref (B 380 + 268)), .none, (.ref (B 381 + 268)), (.ref (B 382 + 268)), (.ref (B 383 + 268)), (.int (.ofNat (U2 294)) 0), (.int (.ofNat 243) 0), (.str ⟨#[47, 99, 108, 97, 105, 109, 47, 99, 117, 116, 46, 112, 121]⟩ (U2 295))]), #[]⟩),
  (1393, B 393 + 268, ⟨(.type "code"), none, (.fields #[(.str ⟨#[60, 108, 97, 109, 98, 100, 97, 62]⟩ (U2 297)), (.str ⟨#[95, 108, 97, 119, 95, 114, 101, 99, 111, 114, 100, 115, 46, 60, 108, 111, 99, 97, 108, 115, 62, 46, 60, 108, 97, 109, 98, 100, 97, 62]⟩ (U2 298)), (.str ⟨#[47, 99, 108, 97, 105, 109, 47, 99, 117, 116, 46, 112, 121]⟩ (U2 299)), (.int (.ofNat 244) 0), (.int (.ofNat 0) 0), (.int (.ofNat 0) 0), (.int (.ofNat 0) 0), (.int (.ofNat 19) 0), (.ref (B 388 + 268)), (.bool true), (.int (.ofNat 181) 0), (.ref (B 389 + 268)), .none, (.ref (B 390 + 268)), (.ref (B 391 + 268)), (.ref (B 392 + 268)), (.int (.ofNat (U2 301)) 0), (.int (.ofNat 244) 0), (.str ⟨#[47, 99, 108, 97, 105, 109, 47, 99, 117, 116, 46, 112, 121]⟩ (U2 302))]), #[]⟩),
  (1402, B 402 + 268, ⟨(.type "code"), none, (.fields #[(.str ⟨#[60, 108, 97, 109, 98, 100, 97, 62]⟩ (U2 304)), (.str ⟨#[95, 108, 97, 119, 95, 114, 101, 99, 111, 114, 100, 115, 46, 60, 108, 111, 99, 97, 108, 115, 62, 46, 60, 108, 97, 109, 98, 100, 97, 62]⟩ (U2 305)), (.str ⟨#[47, 99, 108, 97, 105, 109, 47, 99, 117, 116, 46, 112, 121]⟩ (U2 306)), (.int (.ofNat 245) 0), (.int (.ofNat 0) 0), (.int (.ofNat 0) 0), (.int (.ofNat 0) 0), (.int (.ofNat 19) 0), (.ref (B 397 + 268)), (.bool true), (.int (.ofNat 181) 0), (.ref (B 398 + 268)), .none, (.ref (B 399 + 268)), (.ref (B 400 + 268)), (.ref (B 401 + 268)), (.int (.ofNat (U2 308)) 0), (.int (.ofNat 245) 0), (.str ⟨#[47, 99, 108, 97, 105, 109, 47, 99, 117, 116, 46, 112, 121]⟩ (U2 309))]), #[]⟩),
  (1411, B 411 + 268, ⟨(.type "code"), none, (.fields #[(.str ⟨#[60, 108, 97, 109, 98, 100, 97, 62]⟩ (U2 311)), (.str ⟨#[95, 108, 97, 119, 95, 114, 101, 99, 111, 114, 100, 115, 46, 60, 108, 111, 99, 97, 108, 115, 62, 46, 60, 108, 97, 109, 98, 100, 97, 62]⟩ (U2 312)), (.str ⟨#[47, 99, 108, 97, 105, 109, 47, 99, 117, 116, 46, 112, 121]⟩ (U2 313)), (.int (.ofNat 246) 0), (.int (.ofNat 0) 0), (.int (.ofNat 0) 0), (.int (.ofNat 0) 0), (.int (.ofNat 19) 0), (.ref (B 406 + 268)), (.bool true), (.int (.ofNat 181) 0), (.ref (B 407 + 268)), .none, (.ref (B 408 + 268)), (.ref (B 409 + 268)), (.ref (B 410 + 268)), (.int (.ofNat (U2 315)) 0), (.int (.ofNat 246) 0), (.str ⟨#[47, 99, 108, 97, 105, 109, 47, 99, 117, 116, 46, 112, 121]⟩ (U2 316))]), #[]⟩),
  (1420, B 420 + 268, ⟨(.type "code"), none, (.fields #[(.str ⟨#[60, 108, 97, 109, 98, 100, 97, 62]⟩ (U2 318)), (.str ⟨#[95, 108, 97, 119, 95, 114, 101, 99, 111, 114, 100, 115, 46, 60, 108, 111, 99, 97, 108, 115, 62, 46, 60, 108, 97, 109, 98, 100, 97, 62]⟩ (U2 319)), (.str ⟨#[47, 99, 108, 97, 105, 109, 47, 99, 117, 116, 46, 112, 121]⟩ (U2 320)), (.int (.ofNat 247) 0), (.int (.ofNat 0) 0), (.int (.ofNat 0) 0), (.int (.ofNat 0) 0), (.int (.ofNat 19) 0), (.ref (B 415 + 268)), (.bool true), (.int (.ofNat 181) 0), (.ref (B 416 + 268)), .none, (.ref (B 417 + 268)), (.ref (B 418 + 268)), (.ref (B 419 + 268)), (.int (.ofNat (U2 322)) 0), (.int (.ofNat 247) 0), (.str ⟨#[47, 99, 108, 97, 105, 109, 47, 99, 117, 116, 46, 112, 121]⟩ (U2 323))]), #[]⟩)]
noncomputable def frm0 (P : Params) (A U : Nat → Nat) : Obj := ⟨(.type "frame"), none, (.dict #[⟨(kH P ⟨#[115, 99, 114, 105, 112, 116]⟩), (.str ⟨#[115, 99, 114, 105, 112, 116]⟩ (U 0)), (.ref 267)⟩, ⟨(kH P ⟨#[119, 111, 114, 108, 100]⟩), (.str ⟨#[119, 111, 114, 108, 100]⟩ (U 496)), (.ref (A 6 + 268))⟩, ⟨(kH P ⟨#[102, 101, 101, 100]⟩), (.str ⟨#[102, 101, 101, 100]⟩ (U 497)), (.ref (A 3 + 268))⟩, ⟨(kH P ⟨#[104, 101, 108, 100]⟩), (.str ⟨#[104, 101, 108, 100]⟩ (U 511)), (.ref (A 217 + 268))⟩] 4), #[]⟩
noncomputable def frm1 (P : Params) (A U : Nat → Nat) (k1 k2 k3 k4 : Nat) (vt ve vc vd : Value) : Obj := ⟨(.type "frame"), none, (.dict #[⟨(kH P ⟨#[115, 99, 114, 105, 112, 116]⟩), (.str ⟨#[115, 99, 114, 105, 112, 116]⟩ (U 0)), (.ref 267)⟩, ⟨(kH P ⟨#[119, 111, 114, 108, 100]⟩), (.str ⟨#[119, 111, 114, 108, 100]⟩ (U 496)), (.ref (A 6 + 268))⟩, ⟨(kH P ⟨#[102, 101, 101, 100]⟩), (.str ⟨#[102, 101, 101, 100]⟩ (U 497)), (.ref (A 3 + 268))⟩, ⟨(kH P ⟨#[104, 101, 108, 100]⟩), (.str ⟨#[104, 101, 108, 100]⟩ (U 511)), (.ref (A 217 + 268))⟩, ⟨(kH P ⟨#[116, 117, 114, 110]⟩), (.str ⟨#[116, 117, 114, 110]⟩ k1), vt⟩, ⟨(kH P ⟨#[101, 118, 101, 114, 121]⟩), (.str ⟨#[101, 118, 101, 114, 121]⟩ k2), ve⟩, ⟨(kH P ⟨#[99, 111, 100, 101]⟩), (.str ⟨#[99, 111, 100, 101]⟩ k3), vc⟩, ⟨(kH P ⟨#[100, 101, 101, 100]⟩), (.str ⟨#[100, 101, 101, 100]⟩ k4), vd⟩] 8), #[(some (.ref 265)), (some (.ref 3)), none, (some .notImplemented), none, (some (.ref 266)), (some (.ref 0))]⟩
noncomputable def feedO (A : Nat → Nat) (v : Value) : Obj := ⟨.type "list", none, .seq #[.ref (A 2 + 268), v] 0, #[]⟩
noncomputable def iterO (c r : Nat) : Obj := ⟨.type "range_iterator", none, .fields #[.int (.ofNat c) 0, .int (.ofNat r) 0, .int (.ofNat 1) 0], #[]⟩
noncomputable def tab228 (B : Nat → Nat) : Obj := ⟨.none, none, (.fields #[(.int (.ofNat 198) 0), (.int (.ofNat 0) 0), (.ref (B 8 + 268)), (.int (.ofNat 199) 0), (.int (.ofNat 0) 0), (.ref (B 17 + 268)), (.int (.ofNat 200) 0), (.int (.ofNat 0) 0), (.ref (B 26 + 268)), (.int (.ofNat 201) 0), (.int (.ofNat 0) 0), (.ref (B 35 + 268)), (.int (.ofNat 202) 0), (.int (.ofNat 0) 0), (.ref (B 44 + 268)), (.int (.ofNat 203) 0), (.int (.ofNat 0) 0), (.ref (B 53 + 268)), (.int (.ofNat 204) 0), (.int (.ofNat 0) 0), (.ref (B 62 + 268)), (.int (.ofNat 205) 0), (.int (.ofNat 0) 0), (.ref (B 71 + 268)), (.int (.ofNat 206) 0), (.int (.ofNat 0) 0), (.ref (B 80 + 268)), (.int (.ofNat 207) 0), (.int (.ofNat 0) 0), (.ref (B 89 + 268)), (.int (.ofNat 208) 0), (.int (.ofNat 0) 0), (.ref (B 98 + 268)), (.int (.ofNat 209) 0), (.int (.ofNat 0) 0), (.ref (B 107 + 268)), (.int (.ofNat 210) 0), (.int (.ofNat 0) 0), (.ref (B 116 + 268)), (.int (.ofNat 211) 0), (.int (.ofNat 0) 0), (.ref (B 125 + 268)), (.int (.ofNat 212) 0), (.int (.ofNat 0) 0), (.ref (B 134 + 268)), (.int (.ofNat 213) 0), (.int (.ofNat 0) 0), (.ref (B 143 + 268))]), #[]⟩
noncomputable def tab235 (B : Nat → Nat) : Obj := ⟨.none, none, (.fields #[(.int (.ofNat 216) 0), (.int (.ofNat 0) 0), (.ref (B 155 + 268)), (.int (.ofNat 217) 0), (.int (.ofNat 0) 0), (.ref (B 164 + 268)), (.int (.ofNat 218) 0), (.int (.ofNat 0) 0), (.ref (B 173 + 268)), (.int (.ofNat 219) 0), (.int (.ofNat 0) 0), (.ref (B 182 + 268)), (.int (.ofNat 220) 0), (.int (.ofNat 0) 0), (.ref (B 191 + 268)), (.int (.ofNat 221) 0), (.int (.ofNat 0) 0), (.ref (B 200 + 268)), (.int (.ofNat 222) 0), (.int (.ofNat 0) 0), (.ref (B 209 + 268)), (.int (.ofNat 223) 0), (.int (.ofNat 0) 0), (.ref (B 218 + 268)), (.int (.ofNat 224) 0), (.int (.ofNat 0) 0), (.ref (B 227 + 268)), (.int (.ofNat 225) 0), (.int (.ofNat 0) 0), (.ref (B 236 + 268)), (.int (.ofNat 226) 0), (.int (.ofNat 0) 0), (.ref (B 245 + 268)), (.int (.ofNat 227) 0), (.int (.ofNat 0) 0), (.ref (B 254 + 268)), (.int (.ofNat 228) 0), (.int (.ofNat 0) 0), (.ref (B 263 + 268)), (.int (.ofNat 229) 0), (.int (.ofNat 0) 0), (.ref (B 272 + 268)), (.int (.ofNat 230) 0), (.int (.ofNat 0) 0), (.ref (B 281 + 268)), (.int (.ofNat 231) 0), (.int (.ofNat 0) 0), (.ref (B 290 + 268)), (.int (.ofNat 232) 0), (.int (.ofNat 0) 0), (.ref (B 299 + 268))]), #[]⟩
noncomputable def tab242 (B : Nat → Nat) : Obj := ⟨.none, none, (.fields #[(.int (.ofNat 235) 0), (.int (.ofNat 0) 0), (.ref (B 312 + 268)), (.int (.ofNat 236) 0), (.int (.ofNat 0) 0), (.ref (B 321 + 268)), (.int (.ofNat 237) 0), (.int (.ofNat 0) 0), (.ref (B 330 + 268)), (.int (.ofNat 238) 0), (.int (.ofNat 0) 0), (.ref (B 339 + 268)), (.int (.ofNat 239) 0), (.int (.ofNat 0) 0), (.ref (B 348 + 268)), (.int (.ofNat 240) 0), (.int (.ofNat 0) 0), (.ref (B 357 + 268)), (.int (.ofNat 241) 0), (.int (.ofNat 0) 0), (.ref (B 366 + 268)), (.int (.ofNat 242) 0), (.int (.ofNat 0) 0), (.ref (B 375 + 268)), (.int (.ofNat 243) 0), (.int (.ofNat 0) 0), (.ref (B 384 + 268)), (.int (.ofNat 244) 0), (.int (.ofNat 0) 0), (.ref (B 393 + 268)), (.int (.ofNat 245) 0), (.int (.ofNat 0) 0), (.ref (B 402 + 268)), (.int (.ofNat 246) 0), (.int (.ofNat 0) 0), (.ref (B 411 + 268)), (.int (.ofNat 247) 0), (.int (.ofNat 0) 0), (.ref (B 420 + 268))]), #[]⟩
noncomputable def KB2 (w : World) (sc : Obj) (B : Nat → Nat) : KT := (((KB w sc).put 40 228 (tab228 B)).put 40 235 (tab235 B)).put 40 242 (tab242 B)
noncomputable def stH (P : Params) (A U : Nat → Nat) (co : Obj) (fv : Value) : List Ent := (0, A 0 + 268, frm0 P A U) :: (2, A 2 + 268, co) :: (3, A 3 + 268, feedO A fv) :: stB P A U
noncomputable def stL1 (P : Params) (A U : Nat → Nat) (I : Nat) (co : Obj) (fv : Value) (c r : Nat) : List Ent := (219, I + 268, iterO c r) :: stH P A U co fv
noncomputable def stL2 (P : Params) (A U B U2 : Nat → Nat) (I : Nat) (co : Obj) (fv : Value) (c r k1 k2 k3 k4 : Nat) (vt ve vc vd : Value) : List Ent :=
  (219, I + 268, iterO c r) :: (0, A 0 + 268, frm1 P A U k1 k2 k3 k4 vt ve vc vd) :: (2, A 2 + 268, co) :: (3, A 3 + 268, feedO A fv) :: (stB P A U ++ stC B U2)
end Mine
end
section
open PySem PySem.W PySem.W.X
open Sem (wp)
set_option maxRecDepth 1000000
namespace Mine
noncomputable def app (n : Nat) (f g : Nat → Nat) : Nat → Nat := fun i => match Nat.blt i n with
  | true => f i
  | false => g (i - n)
noncomputable def listO (d : Option Addr) (vs : Array Value) (n : Nat) (sl : Array (Option Value)) : Obj := ⟨.type "list", d, .seq vs n, sl⟩
noncomputable def lawFor : Stmt := (lawBody.drop 2).headD (.Pass default)
noncomputable def forT : PySem.Expr := match lawFor with | .For t _ _ _ _ => t | _ => .Constant .none 0 default
noncomputable def forB0 : List Stmt := match lawFor with | .For _ _ b _ _ => b | _ => []
noncomputable def cdFor (A : Nat → Nat) (I : Nat) : Code := .forLoop forT (.ref (I + 268)) forB0 [] (lawEnv A)
noncomputable def nextC (A : Nat → Nat) (many : Nat) (mt : Nat) : Code := .call (.ref 219) ⟨[.ref (A 3 + 268), .int (.ofNat many) mt], []⟩
/-- the token of a cut call's second argument -/
noncomputable def tokOf : Out → Nat
  | .cut c _ _ _ _ _ _ _ _ _ _ => match c with
    | .call _ a => match a.pos with
      | [_, .int _ t] => t
      | _ => 0
    | _ => 0
  | _ => 0
noncomputable def posOf : Out → Pos
  | .cut _ _ _ _ _ p _ _ _ _ _ => p
  | _ => default
noncomputable def feedE (A : Nat → Nat) (co : Obj) (fv : Value) : List Ent := [(2, A 2 + 268, co), (3, A 3 + 268, feedO A fv)]
noncomputable def forIf : Stmt := (forB0.drop 2).headD (.Pass default)
noncomputable abbrev CmpD := PySem.Expr × CmpOp × PySem.Expr × Pos
noncomputable def ifP : Pos × CmpD × CmpD × Pos × List Stmt := match forIf with
  | .If (.BoolOp _ [.Compare l1 [o1] [c1] p1, .Compare l2 [o2] [c2] p2] bp) r _ ip => (ip, (l1, o1, c1, p1), (l2, o2, c2, p2), bp, r)
  | _ => (default, (.Constant .none 0 default, .Eq, .Constant .none 0 default, default), (.Constant .none 0 default, .Eq, .Constant .none 0 default, default), default, [])
noncomputable def gF (p pF : Pos) (A : Nat → Nat) (I : Nat) : PySem.Ctx := (gL p A).enter (cdFor A I) none pF
noncomputable def trA (A : Nat → Nat) (I : Nat) : Sem Fin := forA (forT, .ref (I + 268)) (forT, .ref (I + 268)) (forB0.take 2) ifP.1 ifP.2.1.1 ifP.2.1.2.2.1 ifP.2.1.2.1 ifP.2.1.2.2.2 (lawEnv A)
noncomputable def trB (A : Nat → Nat) (I : Nat) : Sem Fin := forB (cdFor A I) ifP.2.2.1.1 ifP.2.2.1.2.2.1 ifP.2.2.1.2.1 ifP.2.2.1.2.2.2 (lawEnv A)
noncomputable def dval (o : Out) (i : Nat) : Value := match o with
  | .fin _ _ T _ _ => match T.get 0 with
    | some (_, ob) => match ob.data with
      | .dict es _ => match es[i]? with
        | some e => e.val
        | none => .none
      | _ => .none
    | none => .none
  | _ => .none

end Mine
end
section
open PySem PySem.W PySem.W.X
open Sem (wp)
set_option maxRecDepth 1000000
namespace Mine
noncomputable def ceP1a : List Nat := [1,0,0,0,2]
noncomputable def ceP1b : List Nat := [0,0,0,0,0,0,0,0,0,0,0,0,0,0,0,0,0,0,0,0,0,0,0,0,0,0,0,0,0,0,0,0,0,0,0,0,7,0,7,0,0,0,0,0,0,0,0,8,8,8,8,8,8,8,8,8,8,8,8,0,0,8,8,7,0,0,0,0,7,0,0,7,0,7,0,0,0,7,0,6,6,6,8,8,7,0,0,0,0,7,0,0,7,0,7,0,0,0,7,0,6,6,6,8,8,7,0,0,0,0,7,0,0,7,0,7,0,0,0,7,0,6,6,6,8,8,7,0,0,0,0,7,0,0,7,0,7,0,0,0,7,0,6,6,6,8,8,7,0,0,0,0,7,0,0,7,0,7,0,0,0,7,0,6,6,6,8,7,0,0,0,0,7,0,0,7,0,7,0,0,0,7,0,6,6,6,8,7,0,0,0,0,7,0,0,7,0,7,0,0,0,7,0,6,6,6,8,7,0,0,0,0,7,0,0,7,0,7,0,0,0,7,0,6,6,6,8,7,0,0,0,0,7,0,0,7,0,7,0,0,0,7,0,6,6,6,8,7,0,0,0,0,7,0,0,7,0,7,0,0,0,7,0,6,6,6,8,7,0,0,0,0,7,0,0,7,0,7,0,0,0,7,0,6,6,6,8,7,0,0,0,0,7,0,0,7,0,7,0,0,0,7,0,6,6,6,8,7,0,0,0,0,7,0,0,7,0,7,0,0,0,7,0,6,6,6,8,7,0,0,0,0,7,0,0,7,0,7,0,0,0,7,0,6,6,6,8,7,0,0,0,0,7,0,0,7,0,7,0,0,0,7,0,6,6,6,8,7,0,0,0,0,7,0,0,7,0,7,0,0,0,7,0,6,6,6,8,7,0,0,0,0,7,0,0,7,0,7,0,0,0,7,0,6,6,6,8,7,0,0,0,0,7,0,0,7,0,7,0,0,0,7,0,6,6,6,8,7,0,0,0,0,7,0,0,7,0,7,0,0,0,7,0,6,6,6,8,7,0,0,0,0,7,0,0,7,0,7,0,0,0,7,0,6,6,6,8,7,0,0,0,0,7,0,0,7,0,7,0,0,0,7,0,6,6,6,8,7,0,0,0,0,7,0,0,7,0,7,0,0,0,7,0,6,6,6,8,7,0,0,0,0,7,0,0,7,0,7,0,0,0,7,0,6,6,6,8,7,0,0,0,0,7,0,0,7,0,7,0,0,0,7,0,6,6,6,8,7,0,0,0,0,7,0,0,7,0,7,0,0,0,7,0,6,6,6,8,7,0,0,0,0,7,0,0,7,0,7,0,0,0,7,0,6,6,6,8,7,0,0,0,0,7,0,0,7,0,7,0,0,0,7,0,6,6,6,8,7,0,0,0,0,7,0,0,7,0,7,0,0,0,7,0,6,6,6,5,5,0,0,21,21,21,21,0,0,21,21,21,21,0,0,21,21,21,21,0,0,21,21,21,21,5,7,0,0,0,0,7,0,0,7,0,7,0,0,0,7,0,6,6,6,0,5,0,0,0,0,22,22,22,22,22,22,22,22,22,22,0,0,22,0,0,0,0,0,22,22,7,0,0,0,0,7,0,0,0,7,7,0,6,16,16,0,16,0,0,0,16,0,22,22,22,0,0,0,0,23,23,23,23,23,23,0,0,23,7,0,0,0,0,7,0,0,0,7,7,0,6,16,16,0,16,0,16,16,16,24,0,24,0,24,0,24,24,16,16,24,24,24,26,0,0,22,0,0,0,0,27,27,0,0,0,0,27,0,0,0,0,0,0,0,0,0,27,0,0,28,4,12,28,0,28,0,28,0,28,28,28,28,30,30,0,0,30,0,0,0,0,0,0,30,0,0,0,0,0,28,0,28,0,28,28,28,28,30,30,0,0,30,0,0,0,0,0,0,30,0,0,0,0,0,28,0,28,0,28,28,28,28,32,30,30,30,29,33,29,0,29,11,29,33,27,22,0,0,22,0,0,22,22,7,0,0,0,0,7,0,0,0,7,7,0,6,21,21,0,21,2,21,22,0,0,22,22,7,0,0,0,0,7,0,0,0,7,7,0,6,21,21,0,21,2,21,22,0,0,22,22,22,22,22,22,0,0,34,34,34,34,0,0,34,34,34,34,0,0,34,34,34,34,0,0,34,34,34,34,0,0,34,34,34,34,0,0,34,34,34,34,22,22,22,0,0,22,22,7,0,0,0,0,7,0,0,0,7,7,0,6,22,16,16,0,16,0,16,0,0,16,16,16,16,0,5,0,0,0,0,35,35,35,35,35,35,35,35,35,35,0,0,35,0,0,0,0,0,35,35,7,0,0,0,0,7,0,0,0,7,7,0,6,16,16,0,16,0,0,0,16,0,35,35,35,0,0,0,0,36,36,36,36,36,36,0,0,36,7,0,0,0,0,7,0,0,0,7,7,0,6,16,16,0,16,0,16,16,16,37,0,37,0,37,0,37,37,16,16,37,37,37,37,37,36,36,36,7,0,0,0,0,7,0,0,0,7,7,0,6,36,16,16,16,0,16,4,16,0,36,36,36,34,34,34,0,34,1,34,36,0,0,0,37,0,37,0,37,37,16,16,37,37,37,39,0,0,35,0,0,0,0,40,40,0,0,0,0,40,0,0,0,0,0,0,0,0,0,40,0,0,41,4,12,41,0,41,0,41,0,41,41,41,41,43,43,0,0,43,0,0,0,0,0,0,43,0,0,0,0,0,41,0,41,0,41,41,41,41,43,43,0,0,43,0,0,0,0,0,0,43,0,0,0,0,0,41,0,41,0,41,41,41,41,43,43,0,0,43,0,0,0,0,0,0,43,0,0,0,0,0,41,0,41,0,41,41,41,41,45,43,43,43,42,46,42,0,42,11,42,46,40,35,0,0,35,0,0,35,0,0,35,7,0,0,0,0,7,0,0,0,7,7,0,6,35,21,21,0,21,3,21,21,35,0,0,35,35,35,35,35,35,0,0,47,47,47,47,0,0,47,47,47,47,0,0,47,47,47,47,0,0,47,47,47,47,0,0,47,47,47,47,0,0,47,47,47,47,35,35,35,0,0,35,35,7,0,0,0,0,7,0,0,0,7,7,0,6,35,16,16,0,16,0,16,0,0,16,16,16,16,0,5,0,0,0,0,48,48,48,48,48,48,48,48,48,48,0,0,48,0,0,0,0,0,48,48,7,0,0,0,0,7,0,0,0,7,7,0,6,16,16,0,16,0,0,0,16,0,48,48,48,0,0,0,0,49,49,49,49,49,49,0,0,49,7,0,0,0,0,7,0,0,0,7,7,0,6,16,16,0,16,0,16,16,16,50,0,50,0,50,0,50,50,16,16,50,50,50,50,50,49,49,49,7,0,0,0,0,7,0,0,0,7,7,0,6,49,16,16,16,0,16,4,16,0,49,49,49,34,34,34,0,34,1,34,49,0,0,0,50,0,50,0,50,50,16,16,50,50,50,50,50,49,49,49,7,0,0,0,0,7,0,0,0,7,7,0,6,49,16,16,16,0,16,4,16,0,49,49,49,47,47,47,0,47,1,47,49,0,0,0,50,0,50,0,50,50,16,16,50,50,50,52,0,0,48,0,0,0,0,53,53,0,0,0,0,53,0,0,0,0,0,0,0,0,0,53,0,0,54,4,12,54,0,54,0,54,0,54,54,54,54,56,56,0,0,56,0,0,0,0,0,0,56,0,0,0,0,0,54,0,54,0,54,54,54,54,56,56,0,0,56,0,0,0,0,0,0,56,0,0,0,0,0,54,0,54,0,54,54,54,54,56,56,0,0,56,0,0,0,0,0,0,56,0,0,0,0,0,54,0,54,0,54,54,54,54,58,56,56,56,55,59,55,0,55,11,55,59,53,48,0,0,48,0,0,0,0,0,48,0,0,48,0,0,48,48,7,0,0,0,0,7,0,0,0,7,7,0,6,21,21,0,21,2,21,48,0,0,48,48,48,48,48,48,0,0,60,60,60,60,0,0,60,60,60,60,0,0,60,60,60,60,0,0,60,60,60,60,0,0,60,60,60,60,0,0,60,60,60,60,48,48,48,0,0,0,0,0,0,48,0,0,0,0,48,60,60,0,60,3,60,60,48,48,7,0,0,0,0,7,0,0,0,7,7,0,6,48,16,16,0,16,0,16,0,0,16,16,16,16,0,5,0,0,0,0,64,64,64,64,64,64,0,0,0,64,64,0,0,0,0,66,66,66,66,66,66,0,0,66,66,7,0,0,0,0,7,0,0,0,7,7,0,6,16,16,0,16,5,16,66,7,0,0,0,0,7,0,0,0,7,7,0,6,66,16,16,16,0,16,4,16,0,66,66,66,60,60,60,0,60,1,60,66,65,65,0,65,8,65,66,64,64,64,63,63,0,63,0,67,4,12,67,0,67,0,67,0,67,67,63,67,67,67,61,61,61,0,61,0,70,70,0,70,0,70,70,61,70,70,70,0,70,0,70,70,61,70,70,70,0,70,0,70,70,61,70,70,72,69,69,69,69,69,0,0,0,67,0,67,0,67,67,63,67,67,67,62,62,62,0,62,0,73,73,0,73,0,73,73,62,73,73,73,0,73,0,73,73,62,73,73,73,0,73,0,73,73,62,73,73,75,69,69,69,69,69,0,0,0,67,0,67,0,67,67,63,67,67,77,69,69,69,69,69,69,68,78,68,0,68,11,68,78,0,0,64,63,63,0,63,0,79,4,12,79,0,79,0,79,0,79,79,63,79,79,79,61,61,61,0,61,0,82,82,0,82,0,82,82,61,82,82,82,0,82,0,82,82,61,82,82,82,0,82,0,82,82,61,82,82,84,81,81,81,81,81,0,80,0,80,80,80,0,79,0,79,0,79,79,63,79,79,79,62,62,62,0,62,0,85,85,0,85,0,85,85,62,85,85,85,0,85,0,85,85,62,85,85,85,0,85,0,85,85,62,85,85,87,81,81,81,81,81,0,80,0,80,80,80,0,79,0,79,0,79,79,63,79,79,89,81,81,81,81,81,81,0,0,80,80,0,80,0,90,0,91,90,0,90,0,90,90,80,90,90,91,91,91,0,91,90,0,90,0,90,90,80,90,90,91,91,91,0,91,90,0,90,0,90,90,80,90,90,93,64,60,60,60,0,60,1,60,0,0,64,64,64,63,63,0,63,0,94,0,94,0,94,0,94,94,63,94,94,94,61,61,61,0,61,0,95,95,0,95,0,95,95,61,95,95,95,0,95,0,95,95,61,95,95,95,0,95,0,95,95,61,95,95,97,64,64,64,64,64,64,64,64,7,0,0,0,0,7,0,0,0,7,7,0,6,64,17,17,0,17,0,17,0,0,17,17,17,17,64,64,0,0,64,64,0,94,0,94,0,94,94,63,94,94,94,62,62,62,0,62,0,99,99,0,99,0,99,99,62,99,99,99,0,99,0,99,99,62,99,99,99,0,99,0,99,99,62,99,99,101,64,64,64,64,64,64,64,64,7,0,0,0,0,7,0,0,0,7,7,0,6,64,17,17,0,17,0,17,0,0,17,17,17,17,64,64,0,0,64,64,0,94,0,94,0,94,94,63,94,94,104,0,0,5,0,0,0,0,105,105,105,105,0,0,0,105,105,0,0,0,0,106,106,106,106,0,0,0,106,106,0,0,0,0,108,108,108,108,108,108,0,0,108,108,7,0,0,0,0,7,0,0,0,7,7,0,6,16,16,0,16,5,16,108,7,0,0,0,0,7,0,0,0,7,7,0,6,108,16,16,16,0,16,4,16,0,108,108,108,34,34,34,0,34,1,34,108,107,107,0,107,8,107,108,106,106,106,7,0,0,0,0,7,0,0,0,7,7,0,6,106,34,34,34,0,34,1,34,21,21,21,0,21,1,21,0,106,34,34,34,0,34,1,34,0,0,109,109,109,109,105,105,105,0,0,105,0,0,0,105,105,105,0,0,105,105,0,0,110,110,110,110,105,105,0,105,105,0,0,105,0,0,0,0,0,0,0,0,0,0,111,111,111,111,111,111,0,0,0,111,111,0,0,0,0,113,113,113,113,113,113,0,0,113,113,7,0,0,0,0,7,0,0,0,7,7,0,6,16,16,0,16,5,16,113,7,0,0,0,0,7,0,0,0,7,7,0,6,113,16,16,16,0,16,4,16,0,113,113,113,34,34,34,0,34,1,34,113,112,112,0,112,8,112,113,111,111,0,0,111,34,34,34,0,34,1,34,111,0,0,0,0,111,7,0,0,0,0,7,0,0,0,7,7,0,6,111,34,34,34,0,34,1,34,21,21,21,0,21,1,21,0,0,0,0,0,0,0,114,114,0,114,0,115,0,116,115,0,115,0,115,115,114,115,115,116,116,116,0,116,115,0,115,0,115,115,114,115,115,0,0,0,116,115,0,115,0,115,115,114,115,115,118,116,116,116,111,34,34,0,34,3,34,34,105,0,5,0,0,0,0,119,119,119,119,119,119,0,0,0,119,119,119,0,0,0,0,0,0,0,120,120,120,120,120,120,0,0,0,120,120,0,0,0,0,122,122,122,122,122,122,0,0,122,122,7,0,0,0,0,7,0,0,0,7,7,0,6,16,16,0,16,5,16,122,7,0,0,0,0,7,0,0,0,7,7,0,6,122,16,16,16,0,16,4,16,0,122,122,122,47,47,47,0,47,1,47,122,121,121,0,121,8,121,122,120,120,120,7,0,0,0,0,7,0,0,0,7,7,0,6,120,47,47,47,0,47,1,47,21,21,21,0,21,1,21,0,120,0,0,120,7,0,0,0,0,7,0,0,0,7,7,0,6,120,47,47,47,0,47,1,47,21,21,0,21,3,21,21,120,47,47,47,0,47,1,47,0,0,120,0,0,0,0,0,0,120,47,47,0,47,3,47,47,0,5,0,0,0,0,123,123,123,123,123,123,0,0,0,123,123,0,0,0,0,125,125,125,125,125,125,0,0,125,125,7,0,0,0,0,7,0,0,0,7,7,0,6,16,16,0,16,5,16,125,7,0,0,0,0,7,0,0,0,7,7,0,6,125,16,16,16,0,16,4,16,0,125,125,125,60,60,60,0,60,1,60,125,124,124,0,124,8,124,125,123,123,0,123,123,0,0,0,0,126,126,126,126,0,0,126,126,126,126,126,0,0,0,0,126,123,60,60,60,0,60,1,60,123,7,0,0,0,0,7,0,0,0,7,7,0,6,123,60,60,60,0,60,1,60,21,21,21,0,21,1,21,0,127,127,127,0,127,0,128,128,0,128,0,128,128,127,128,128,128,0,128,0,128,128,127,128,128,128,0,128,0,128,128,127,128,128,128,0,128,0,128,128,127,128,128,130,123,123,123,123,123,123,123,0,0,123,0,0,123,123,123,0,0,123,0,0,0,0,0,0,123,123,123,123,0,0,0,0,131,131,131,131,0,0,0,0,123,0,0,0,0,0,0,123,0,0,132,132,132,132,123,60,60,0,60,3,60,60,123,123,60,60,0,60,3,60,60,5,133,133,133,0,133,0,134,134,0,134,0,134,134,133,134,134,134,0,134,0,134,134,133,134,134,134,0,134,0,134,134,133,134,134,136,1,1,1,1,0,1,0,0,0,0,138,138,0,0,0,0,138,7,0,0,0,0,7,0,0,0,7,7,0,6,0,0,0,9,139,16,16,16,16,0,16,0,16,16,16,140,16,16,16,139,139,139,139,139,139,0,140,0,140,0,140,140,16,16,140,140,140,140,140,139,139,139,0,140,0,140,0,140,140,16,16,140,140,140,140,140,139,139,139,0,140,0,140,0,140,140,16,16,140,140,140,140,140,139,139,139,0,140,0,140,0,140,140,16,16,140,140,140,142,139,0,143,0,143,143,143,143,143,0,0,0,0,143,143,143,143,143,143,0,143,0,146,4,12,146,0,146,0,146,0,146,146,143,146,146,148,148,148,0,0,138,7,0,0,0,0,7,0,0,0,7,7,0,6,148,16,16,16,0,16,4,16,0,34,34,34,34,0,34,0,34,0,0,0,9,150,149,149,149,149,0,149,0,149,34,34,151,149,149,149,150,150,150,150,150,150,0,151,0,151,0,151,151,34,34,151,151,151,151,151,151,151,151,151,151,151,151,151,151,151,151,151,150,150,150,0,151,0,151,0,151,151,34,34,151,151,151,151,151,151,151,152,151,151,151,150,150,150,0,151,0,151,0,151,151,34,34,151,151,151,151,151,151,151,152,151,150,150,150,0,151,0,151,0,151,151,34,34,151,151,151,151,151,151,151,152,151,150,150,150,0,151,0,151,0,151,151,34,34,151,151,151,151,151,151,151,152,151,150,150,150,0,151,0,151,0,151,151,34,34,151,151,151,151,151,151,151,152,151,150,150,150,0,151,0,151,0,151,151,34,34,151,151,151,159,150,0,160,0,160,160,160,160,160,152,152,153,153,154,154,155,155,156,156,157,157,153,152,0,0,0,0,154,153,0,0,0,0,152,153,0,0,0,0,154,153,0,0,0,0,154,152,0,0,0,0,155,152,0,0,0,0,155,153,0,0,0,0,156,153,0,0,0,0,156,152,0,0,0,0,156,154,0,0,0,0,157,152,0,0,0,0,157,155,0,0,0,0,157,153,0,0,0,0,160,160,160,160,0,147,0,147,147,147,0,146,0,146,0,146,146,143,146,146,148,148,148,0,0,138,7,0,0,0,0,7,0,0,0,7,7,0,6,148,16,16,16,0,16,4,16,0,47,47,47,47,0,47,0,47,0,0,0,9,165,164,164,164,164,0,164,0,164,47,47,166,164,164,164,165,165,165,165,165,165,0,166,0,166,0,166,166,47,47,166,166,166,166,166,166,166,166,166,166,166,166,166,166,166,166,166,165,165,165,0,166,0,166,0,166,166,47,47,166,166,166,166,166,166,166,167,166,166,166,165,165,165,0,166,0,166,0,166,166,47,47,166,166,166,166,166,166,166,167,166,165,165,165,0,166,0,166,0,166,166,47,47,166,166,166,166,166,166,166,167,166,165,165,165,0,166,0,166,0,166,166,47,47,166,166,166,166,166,166,166,167,166,165,165,165,0,166,0,166,0,166,166,47,47,166,166,166,166,166,166,166,167,166,165,165,165,0,166,0,166,0,166,166,47,47,166,166,166,174,165,0,175,0,175,175,175,175,175,167,167,168,168,169,169,170,170,171,171,172,172,168,167,0,0,0,0,169,168,0,0,0,0,167,168,0,0,0,0,169,168,0,0,0,0,169,167,0,0,0,0,170,167,0,0,0,0,170,168,0,0,0,0,171,168,0,0,0,0,171,167,0,0,0,0,171,169,0,0,0,0,172,167,0,0,0,0,172,170,0,0,0,0,172,168,0,0,0,0,175,175,175,175,0,147,0,147,147,147,0,146,0,146,0,146,146,143,146,146,148,148,148,0,0,138,7,0,0,0,0,7,0,0,0,7,7,0,6,148,16,16,16,0,16,4,16,0,60,60,60,60,0,60,0,60,0,0,0,9,180,179,179,179,179,0,179,0,179,60,60,181,179,179,179,180,180,180,180,180,180,0,181,0,181,0,181,181,60,60,181,181,181,181,181,181,181,181,181,181,181,181,181,181,181,181,181,180,180,180,0,181,0,181,0,181,181,60,60,181,181,181,181,181,181,181,182,181,181,181,180,180,180,0,181,0,181,0,181,181,60,60,181,181,181,181,181,181,181,182,181,180,180,180,0,181,0,181,0,181,181,60,60,181,181,181,181,181,181,181,182,181,180,180,180,0,181,0,181,0,181,181,60,60,181,181,181,181,181,181,181,182,181,180,180,180,0,181,0,181,0,181,181,60,60,181,181,181,181,181,181,181,182,181,180,180,180,0,181,0,181,0,181,181,60,60,181,181,181,189,180,0,190,0,190,190,190,190,190,182,182,183,183,184,184,185,185,186,186,187,187,183,182,0,0,0,0,184,183,0,0,0,0,182,183,0,0,0,0,184,183,0,0,0,0,184,182,0,0,0,0,185,182,0,0,0,0,185,183,0,0,0,0,186,183,0,0,0,0,186,182,0,0,0,0,186,184,0,0,0,0,187,182,0,0,0,0,187,185,0,0,0,0,187,183,0,0,0,0,190,190,190,190,0,147,0,147,147,147,0,146,0,146,0,146,146,143,146,146,195,137,137,148,148,148,0,0,138,7,0,0,0,0,7,0,0,0,7,7,0,6,21,21,21,21,0,21,0,21,0,0,0,9,197,196,196,196,196,0,196,0,196,21,21,198,196,196,196,197,197,197,197,197,197,0,198,0,198,0,198,198,21,21,198,198,198,198,198,198,198,198,198,198,198,198,198,198,198,198,198,197,197,197,0,198,0,198,0,198,198,21,21,198,198,198,198,198,198,198,199,198,198,198,197,197,197,0,198,0,198,0,198,198,21,21,198,198,198,198,198,198,198,199,198,197,197,197,0,198,0,198,0,198,198,21,21,198,198,198,198,198,198,198,199,198,197,197,197,0,198,0,198,0,198,198,21,21,198,198,198,204,197,0,205,0,205,205,205,205,205,199,199,200,200,201,201,202,202,200,199,0,0,0,0,201,200,0,0,0,0,202,201,0,0,0,0,199,201,0,0,0,0,202,200,0,0,0,0,202,199,0,0,0,0,205,205,205,205,137,0,0,138,7,0,0,0,0,7,0,0,0,7,7,0,6,17,17,17,17,0,17,0,17,0,0,0,9,209,208,208,208,208,0,208,0,208,17,17,210,208,208,208,209,209,209,209,209,209,0,210,0,210,0,210,210,17,17,210,210,210,210,210,210,210,210,210,210,210,210,210,210,210,210,210,209,209,209,0,210,0,210,0,210,210,17,17,210,210,210,210,210,210,210,211,210,210,210,209,209,209,0,210,0,210,0,210,210,17,17,210,210,210,214,209,0,215,0,215,215,215,215,215,211,211,212,212,212,211,0,0,0,0,215,215,215,215,1,1]
noncomputable def p1a (w : World) (sc : Obj) (p p0 : Pos) (A U ts as : Nat → Nat) : Out := lawEv w 30000 (stT (lawBody.take 2) (lawEnv A)) [] (gL p A) p0 [] (KB w sc) (mkT (St0 w.params A U)) 1 ts as ceP1a []
noncomputable def p1b (w : World) (sc co : Obj) (p p0 : Pos) (A U ts as : Nat → Nat) (x : Nat) (ts2 as2 : Nat → Nat) : Out := res (fun k L g p K _ T m acc => lawEv w 30000 (k (.ok (.ret (.ref (x + 268))))) L g p K (KB w sc) (T.put 40 m (x + 268, co)) (m + 1) ts2 as2 ceP1b acc) (p1a w sc p p0 A U ts as)
noncomputable def sliceE (ts as : Nat → Nat) : List Ent := [(1, as 0 + 268, ⟨.type "slice", none, .fields #[.none, .int (.ofNat 30) (ts 0), .none], #[]⟩)]
noncomputable def ceE0 : List Nat := [0,0,1,1,0]
set_option maxHeartbeats 0 in
theorem e0_eq (w : World) (sc : Obj) (p p0 : Pos) (ts as : Nat → Nat) :
    agnL (St0 w.params as ts) (lawEv w 3000 (D1.den cL0) [] (g1 p) p0 [] (KB w sc) (mkT []) 0 ts as ceE0 []) = agnR (St0 w.params as ts) (.func lawBody (lawEnv as)) (g1 p) (KB w sc) (lawEv w 3000 (D1.den cL0) [] (g1 p) p0 [] (KB w sc) (mkT []) 0 ts as ceE0 []) := by
  kernel_rfl
set_option maxHeartbeats 0 in
theorem p1_cut (w : World) (d : Option Addr) (vs : Array Value) (n : Nat) (sl : Array (Option Value)) (p p0 : Pos) (A U ts as : Nat → Nat) :
    cutL (sliceE ts as) (p1a w (listO d vs n sl) p p0 A U ts as) = some (.call (.builtin "list.__getitem__") ⟨[.ref 267, .ref (as 0 + 268)], []⟩, none, gL p A, KB w (listO d vs n sl), (sliceE ts as).map fun e => some e.2) := by
  kernel_rfl
set_option maxHeartbeats 0 in
theorem p1_fin (w : World) (d d2 : Option Addr) (vs vs2 : Array Value) (n n2 : Nat) (sl sl2 : Array (Option Value)) (p p0 : Pos) (A U ts as : Nat → Nat) (x : Nat) (ts2 as2 : Nat → Nat) :
    finL (stH w.params (app 1 A (app 1 as (app 1 (fun _ => x) as2))) (app 1 U (app 1 ts ts2)) (listO d2 vs2 n2 sl2) (.int (.ofNat 0) (ts2 0))) (p1b w (listO d vs n sl) (listO d2 vs2 n2 sl2) p p0 A U ts as x ts2 as2) =
      finR (stH w.params (app 1 A (app 1 as (app 1 (fun _ => x) as2))) (app 1 U (app 1 ts ts2)) (listO d2 vs2 n2 sl2) (.int (.ofNat 0) (ts2 0))) (KB w (listO d vs n sl)) (.ok (.ret .none)) (p1b w (listO d vs n sl) (listO d2 vs2 n2 sl2) p p0 A U ts as x ts2 as2) := by
  kernel_rfl
noncomputable def ceFa : List Nat := [0,0,0,1,0,2]
noncomputable def ceFb : List Nat := [0,0,0,0,0,0,219,219,0,219,0,219,219,219,0,219,0,219,219,219,220,2]
noncomputable def fa (w : World) (sc co : Obj) (p p0 : Pos) (A U : Nat → Nat) (fv : Value) (ts as : Nat → Nat) : Out := lawEv w 30000 (stT ((lawBody.drop 2).take 1) (lawEnv A)) [] (gL p A) p0 [] (KB w sc) (mkT (stH w.params A U co fv)) 218 ts as ceFa []
noncomputable def fb (w : World) (sc co : Obj) (p p0 : Pos) (A U : Nat → Nat) (fv : Value) (ts as : Nat → Nat) (v t tt vt : Nat) (ts2 as2 : Nat → Nat) : Out := res (fun k L g p K _ T m acc => lawEv w 30000 (k (.ok (.ret (.int (.ofNat v) vt)))) L g p K (KB w sc) (T.put 40 3 (A 3 + 268, feedO A (.int (.ofNat t) tt))) m ts2 as2 ceFb acc) (fa w sc co p p0 A U fv ts as)
noncomputable def fc (w : World) (sc co : Obj) (p p0 : Pos) (A U : Nat → Nat) (fv : Value) (ts as : Nat → Nat) (v t tt vt : Nat) (ts2 as2 : Nat → Nat) (B : Nat → Nat) (T' : PT) (ts3 as3 : Nat → Nat) : Out := res (fun k L g p K _ _ _ acc => lawEv w 30000 (k (.ok .next)) L g p K (KB2 w sc B) T' 5000 ts3 as3 [] acc) (fb w sc co p p0 A U fv ts as v t tt vt ts2 as2)
set_option maxHeartbeats 0 in
theorem f_cut (w : World) (sc : Obj) (d2 : Option Addr) (vs2 : Array Value) (n2 : Nat) (sl2 : Array (Option Value)) (p p0 : Pos) (A U ts as : Nat → Nat) (fv : Value) :
    cutL (feedE A (listO d2 vs2 n2 sl2) fv) (fa w sc (listO d2 vs2 n2 sl2) p p0 A U fv ts as) = some (nextC A 8 (tokOf (fa w sc (listO d2 vs2 n2 sl2) p p0 A U fv ts as)), none, gL p A, KB w sc, (feedE A (listO d2 vs2 n2 sl2) fv).map fun e => some e.2) := by
  kernel_rfl
set_option maxHeartbeats 0 in
theorem f_cut2 (w : World) (sc : Obj) (d2 : Option Addr) (vs2 : Array Value) (n2 : Nat) (sl2 : Array (Option Value)) (p p0 : Pos) (A U ts as : Nat → Nat) (fv : Value) (t tt vt : Nat) (ts2 as2 : Nat → Nat) :
    cutL (stL1 w.params A U (as2 1) (listO d2 vs2 n2 sl2) (.int (.ofNat t) tt) 0 1) (fb w sc (listO d2 vs2 n2 sl2) p p0 A U fv ts as 0 t tt vt ts2 as2) = some (cdFor A (as2 1), none, gL p A, KB w sc, (stL1 w.params A U (as2 1) (listO d2 vs2 n2 sl2) (.int (.ofNat t) tt) 0 1).map fun e => some e.2) ∧
    cutL (stL1 w.params A U (as2 1) (listO d2 vs2 n2 sl2) (.int (.ofNat t) tt) 0 2) (fb w sc (listO d2 vs2 n2 sl2) p p0 A U fv ts as 1 t tt vt ts2 as2) = some (cdFor A (as2 1), none, gL p A, KB w sc, (stL1 w.params A U (as2 1) (listO d2 vs2 n2 sl2) (.int (.ofNat t) tt) 0 2).map fun e => some e.2) ∧
    cutL (stL1 w.params A U (as2 1) (listO d2 vs2 n2 sl2) (.int (.ofNat t) tt) 0 3) (fb w sc (listO d2 vs2 n2 sl2) p p0 A U fv ts as 2 t tt vt ts2 as2) = some (cdFor A (as2 1), none, gL p A, KB w sc, (stL1 w.params A U (as2 1) (listO d2 vs2 n2 sl2) (.int (.ofNat t) tt) 0 3).map fun e => some e.2) ∧
    cutL (stL1 w.params A U (as2 1) (listO d2 vs2 n2 sl2) (.int (.ofNat t) tt) 0 4) (fb w sc (listO d2 vs2 n2 sl2) p p0 A U fv ts as 3 t tt vt ts2 as2) = some (cdFor A (as2 1), none, gL p A, KB w sc, (stL1 w.params A U (as2 1) (listO d2 vs2 n2 sl2) (.int (.ofNat t) tt) 0 4).map fun e => some e.2) ∧
    cutL (stL1 w.params A U (as2 1) (listO d2 vs2 n2 sl2) (.int (.ofNat t) tt) 0 5) (fb w sc (listO d2 vs2 n2 sl2) p p0 A U fv ts as 4 t tt vt ts2 as2) = some (cdFor A (as2 1), none, gL p A, KB w sc, (stL1 w.params A U (as2 1) (listO d2 vs2 n2 sl2) (.int (.ofNat t) tt) 0 5).map fun e => some e.2) ∧
    cutL (stL1 w.params A U (as2 1) (listO d2 vs2 n2 sl2) (.int (.ofNat t) tt) 0 6) (fb w sc (listO d2 vs2 n2 sl2) p p0 A U fv ts as 5 t tt vt ts2 as2) = some (cdFor A (as2 1), none, gL p A, KB w sc, (stL1 w.params A U (as2 1) (listO d2 vs2 n2 sl2) (.int (.ofNat t) tt) 0 6).map fun e => some e.2) ∧
    cutL (stL1 w.params A U (as2 1) (listO d2 vs2 n2 sl2) (.int (.ofNat t) tt) 0 7) (fb w sc (listO d2 vs2 n2 sl2) p p0 A U fv ts as 6 t tt vt ts2 as2) = some (cdFor A (as2 1), none, gL p A, KB w sc, (stL1 w.params A U (as2 1) (listO d2 vs2 n2 sl2) (.int (.ofNat t) tt) 0 7).map fun e => some e.2) ∧
    cutL (stL1 w.params A U (as2 1) (listO d2 vs2 n2 sl2) (.int (.ofNat t) tt) 0 8) (fb w sc (listO d2 vs2 n2 sl2) p p0 A U fv ts as 7 t tt vt ts2 as2) = some (cdFor A (as2 1), none, gL p A, KB w sc, (stL1 w.params A U (as2 1) (listO d2 vs2 n2 sl2) (.int (.ofNat t) tt) 0 8).map fun e => some e.2) :=
  ⟨by kernel_rfl, by kernel_rfl, by kernel_rfl, by kernel_rfl, by kernel_rfl, by kernel_rfl, by kernel_rfl, by kernel_rfl⟩
set_option maxHeartbeats 0 in
theorem f_fin (w : World) (sc : Obj) (d2 : Option Addr) (vs2 : Array Value) (n2 : Nat) (sl2 : Array (Option Value)) (p p0 : Pos) (A U ts as : Nat → Nat) (fv : Value) (t tt vt : Nat) (ts2 as2 : Nat → Nat) (B U2 : Nat → Nat) (fv3 : Value) (c k1 k2 k3 k4 : Nat) (x1 x2 x3 x4 : Value) (ts3 as3 : Nat → Nat) :
    finL (stL2 w.params A U B U2 (as2 1) (listO d2 vs2 n2 sl2) fv3 c 0 k1 k2 k3 k4 x1 x2 x3 x4) (fc w sc (listO d2 vs2 n2 sl2) p p0 A U fv ts as 0 t tt vt ts2 as2 B (mkT (stL2 w.params A U B U2 (as2 1) (listO d2 vs2 n2 sl2) fv3 c 0 k1 k2 k3 k4 x1 x2 x3 x4)) ts3 as3) = finR (stL2 w.params A U B U2 (as2 1) (listO d2 vs2 n2 sl2) fv3 c 0 k1 k2 k3 k4 x1 x2 x3 x4) (KB2 w sc B) (.ok (.ret .none)) (fc w sc (listO d2 vs2 n2 sl2) p p0 A U fv ts as 0 t tt vt ts2 as2 B (mkT (stL2 w.params A U B U2 (as2 1) (listO d2 vs2 n2 sl2) fv3 c 0 k1 k2 k3 k4 x1 x2 x3 x4)) ts3 as3) ∧
    finL (stL2 w.params A U B U2 (as2 1) (listO d2 vs2 n2 sl2) fv3 c 0 k1 k2 k3 k4 x1 x2 x3 x4) (fc w sc (listO d2 vs2 n2 sl2) p p0 A U fv ts as 1 t tt vt ts2 as2 B (mkT (stL2 w.params A U B U2 (as2 1) (listO d2 vs2 n2 sl2) fv3 c 0 k1 k2 k3 k4 x1 x2 x3 x4)) ts3 as3) = finR (stL2 w.params A U B U2 (as2 1) (listO d2 vs2 n2 sl2) fv3 c 0 k1 k2 k3 k4 x1 x2 x3 x4) (KB2 w sc B) (.ok (.ret .none)) (fc w sc (listO d2 vs2 n2 sl2) p p0 A U fv ts as 1 t tt vt ts2 as2 B (mkT (stL2 w.params A U B U2 (as2 1) (listO d2 vs2 n2 sl2) fv3 c 0 k1 k2 k3 k4 x1 x2 x3 x4)) ts3 as3) ∧
    finL (stL2 w.params A U B U2 (as2 1) (listO d2 vs2 n2 sl2) fv3 c 0 k1 k2 k3 k4 x1 x2 x3 x4) (fc w sc (listO d2 vs2 n2 sl2) p p0 A U fv ts as 2 t tt vt ts2 as2 B (mkT (stL2 w.params A U B U2 (as2 1) (listO d2 vs2 n2 sl2) fv3 c 0 k1 k2 k3 k4 x1 x2 x3 x4)) ts3 as3) = finR (stL2 w.params A U B U2 (as2 1) (listO d2 vs2 n2 sl2) fv3 c 0 k1 k2 k3 k4 x1 x2 x3 x4) (KB2 w sc B) (.ok (.ret .none)) (fc w sc (listO d2 vs2 n2 sl2) p p0 A U fv ts as 2 t tt vt ts2 as2 B (mkT (stL2 w.params A U B U2 (as2 1) (listO d2 vs2 n2 sl2) fv3 c 0 k1 k2 k3 k4 x1 x2 x3 x4)) ts3 as3) ∧
    finL (stL2 w.params A U B U2 (as2 1) (listO d2 vs2 n2 sl2) fv3 c 0 k1 k2 k3 k4 x1 x2 x3 x4) (fc w sc (listO d2 vs2 n2 sl2) p p0 A U fv ts as 3 t tt vt ts2 as2 B (mkT (stL2 w.params A U B U2 (as2 1) (listO d2 vs2 n2 sl2) fv3 c 0 k1 k2 k3 k4 x1 x2 x3 x4)) ts3 as3) = finR (stL2 w.params A U B U2 (as2 1) (listO d2 vs2 n2 sl2) fv3 c 0 k1 k2 k3 k4 x1 x2 x3 x4) (KB2 w sc B) (.ok (.ret .none)) (fc w sc (listO d2 vs2 n2 sl2) p p0 A U fv ts as 3 t tt vt ts2 as2 B (mkT (stL2 w.params A U B U2 (as2 1) (listO d2 vs2 n2 sl2) fv3 c 0 k1 k2 k3 k4 x1 x2 x3 x4)) ts3 as3) ∧
    finL (stL2 w.params A U B U2 (as2 1) (listO d2 vs2 n2 sl2) fv3 c 0 k1 k2 k3 k4 x1 x2 x3 x4) (fc w sc (listO d2 vs2 n2 sl2) p p0 A U fv ts as 4 t tt vt ts2 as2 B (mkT (stL2 w.params A U B U2 (as2 1) (listO d2 vs2 n2 sl2) fv3 c 0 k1 k2 k3 k4 x1 x2 x3 x4)) ts3 as3) = finR (stL2 w.params A U B U2 (as2 1) (listO d2 vs2 n2 sl2) fv3 c 0 k1 k2 k3 k4 x1 x2 x3 x4) (KB2 w sc B) (.ok (.ret .none)) (fc w sc (listO d2 vs2 n2 sl2) p p0 A U fv ts as 4 t tt vt ts2 as2 B (mkT (stL2 w.params A U B U2 (as2 1) (listO d2 vs2 n2 sl2) fv3 c 0 k1 k2 k3 k4 x1 x2 x3 x4)) ts3 as3) ∧
    finL (stL2 w.params A U B U2 (as2 1) (listO d2 vs2 n2 sl2) fv3 c 0 k1 k2 k3 k4 x1 x2 x3 x4) (fc w sc (listO d2 vs2 n2 sl2) p p0 A U fv ts as 5 t tt vt ts2 as2 B (mkT (stL2 w.params A U B U2 (as2 1) (listO d2 vs2 n2 sl2) fv3 c 0 k1 k2 k3 k4 x1 x2 x3 x4)) ts3 as3) = finR (stL2 w.params A U B U2 (as2 1) (listO d2 vs2 n2 sl2) fv3 c 0 k1 k2 k3 k4 x1 x2 x3 x4) (KB2 w sc B) (.ok (.ret .none)) (fc w sc (listO d2 vs2 n2 sl2) p p0 A U fv ts as 5 t tt vt ts2 as2 B (mkT (stL2 w.params A U B U2 (as2 1) (listO d2 vs2 n2 sl2) fv3 c 0 k1 k2 k3 k4 x1 x2 x3 x4)) ts3 as3) ∧
    finL (stL2 w.params A U B U2 (as2 1) (listO d2 vs2 n2 sl2) fv3 c 0 k1 k2 k3 k4 x1 x2 x3 x4) (fc w sc (listO d2 vs2 n2 sl2) p p0 A U fv ts as 6 t tt vt ts2 as2 B (mkT (stL2 w.params A U B U2 (as2 1) (listO d2 vs2 n2 sl2) fv3 c 0 k1 k2 k3 k4 x1 x2 x3 x4)) ts3 as3) = finR (stL2 w.params A U B U2 (as2 1) (listO d2 vs2 n2 sl2) fv3 c 0 k1 k2 k3 k4 x1 x2 x3 x4) (KB2 w sc B) (.ok (.ret .none)) (fc w sc (listO d2 vs2 n2 sl2) p p0 A U fv ts as 6 t tt vt ts2 as2 B (mkT (stL2 w.params A U B U2 (as2 1) (listO d2 vs2 n2 sl2) fv3 c 0 k1 k2 k3 k4 x1 x2 x3 x4)) ts3 as3) ∧
    finL (stL2 w.params A U B U2 (as2 1) (listO d2 vs2 n2 sl2) fv3 c 0 k1 k2 k3 k4 x1 x2 x3 x4) (fc w sc (listO d2 vs2 n2 sl2) p p0 A U fv ts as 7 t tt vt ts2 as2 B (mkT (stL2 w.params A U B U2 (as2 1) (listO d2 vs2 n2 sl2) fv3 c 0 k1 k2 k3 k4 x1 x2 x3 x4)) ts3 as3) = finR (stL2 w.params A U B U2 (as2 1) (listO d2 vs2 n2 sl2) fv3 c 0 k1 k2 k3 k4 x1 x2 x3 x4) (KB2 w sc B) (.ok (.ret .none)) (fc w sc (listO d2 vs2 n2 sl2) p p0 A U fv ts as 7 t tt vt ts2 as2 B (mkT (stL2 w.params A U B U2 (as2 1) (listO d2 vs2 n2 sl2) fv3 c 0 k1 k2 k3 k4 x1 x2 x3 x4)) ts3 as3) :=
  ⟨by kernel_rfl, by kernel_rfl, by kernel_rfl, by kernel_rfl, by kernel_rfl, by kernel_rfl, by kernel_rfl, by kernel_rfl⟩

end Mine
end
section
open PySem PySem.W PySem.W.X
open Sem (wp)
set_option maxRecDepth 1000000
namespace Mine
noncomputable def ceA1 : List Nat := [220,0,220,14,220,220,220,1,1,0,1,0,0,0,0,1002,1002,0,0,0,0,0,0,0,0,0,0,0,0,0,0,0,0,0,0,0,0,0,0,0,0,0,0,0,0,0,0,0,0,0,0,0,0,0,0,0,0,0,0,0,0,0,0,0,0,0,0,0,0,0,0,0,0,0,0,0,0,0,0,0,0,0,0,0,0,0,0,0,0,0,0,0,0,0,0,0,0,0,0,0,0,0,0,0,0,0,0,0,0,0,0,0,0,0,0,0,0,0,0,0,0,0,0,0,0,0,0,0,0,0,0,0,0,0,0,0,0,0,0,0,0,0,0,0,0,0,0,0,1,0,0,0,0,1149,1149,0,0,0,0,0,0,0,0,0,0,0,0,0,0,0,0,0,0,0,0,0,0,0,0,0,0,0,0,0,0,0,0,0,0,0,0,0,0,0,0,0,0,0,0,0,0,0,0,0,0,0,0,0,0,0,0,0,0,0,0,0,0,0,0,0,0,0,0,0,0,0,0,0,0,0,0,0,0,0,0,0,0,0,0,0,0,0,0,0,0,0,0,0,0,0,0,0,0,0,0,0,0,0,0,0,0,0,0,0,0,0,0,0,0,0,0,0,0,0,0,0,0,0,0,0,0,0,0,0,0,0,0,0,0,0,0,0,0,1147,1303,1147,0,1147,0,1303,1147,1303,0,1,0,0,0,0,1306,1306,0,0,0,0,0,0,0,0,0,0,0,0,0,0,0,0,0,0,0,0,0,0,0,0,0,0,0,0,0,0,0,0,0,0,0,0,0,0,0,0,0,0,0,0,0,0,0,0,0,0,0,0,0,0,0,0,0,0,0,0,0,0,0,0,0,0,0,0,0,0,0,0,0,0,0,0,0,0,0,0,0,0,0,0,0,0,0,0,0,0,0,0,0,0,0,0,0,0,0,0,0,0,0,0,0,0,1304,1424,1304,0,1304,0,1424,1304,1424,1,1,1,0,1,0,0,1,0,0,1425,0,1425,0,1425,0,2]
noncomputable def ta1 (w : World) (sc co : Obj) (p pF p0 : Pos) (A U : Nat → Nat) (I : Nat) (fv : Value) (c r : Nat) (ts as : Nat → Nat) : Out := lawEv w 30000 (trA A I) [] (gF p pF A I) p0 [] (KB w sc) (mkT (stL1 w.params A U I co fv c (r + 1))) 1000 ts as ceA1 []
noncomputable def tb1 (w : World) (sc co : Obj) (p pF p0 : Pos) (A U : Nat → Nat) (I : Nat) (fv : Value) (c r : Nat) (ts as : Nat → Nat) (v t tt vt : Nat) (ts2 as2 : Nat → Nat) (ce : List Nat) : Out := res (fun k L g p K kt T m acc => lawEv w 30000 (k (.ok (.ret (.int (.ofNat v) vt)))) L g p K (KB2 w sc as) (T.put 40 3 (A 3 + 268, feedO A (.int (.ofNat t) tt))) m ts2 as2 ce acc) (ta1 w sc co p pF p0 A U I fv c r ts as)
noncomputable abbrev tl1 (w : World) (co : Obj) (A U : Nat → Nat) (I : Nat) (c r : Nat) (ts as : Nat → Nat) (t tt : Nat) (ts2 : Nat → Nat) (o : Out) : List Ent := stL2 w.params A U as ts I co (.int (.ofNat t) tt) (c + 1) r (ts 1) (ts 324) (ts2 0) (ts2 1) (dval o 4) (dval o 5) (dval o 6) (dval o 7)
set_option maxHeartbeats 0 in
theorem ta1_cut (w : World) (sc : Obj) (d2 : Option Addr) (vs2 : Array Value) (n2 : Nat) (sl2 : Array (Option Value)) (p pF p0 : Pos) (A U : Nat → Nat) (I : Nat) (fv : Value) (c r : Nat) (ts as : Nat → Nat)  :
    cutL (feedE A (listO d2 vs2 n2 sl2) fv) (ta1 w sc (listO d2 vs2 n2 sl2) p pF p0 A U I fv c r ts as) = some (nextC A 46 (tokOf (ta1 w sc (listO d2 vs2 n2 sl2) p pF p0 A U I fv c r ts as)), none, gF p pF A I, KB2 w sc as, (feedE A (listO d2 vs2 n2 sl2) fv).map fun e => some e.2) := by
  kernel_rfl
noncomputable def ceA1_0 : List Nat := [1425,1425,1425,0,1425,0,1425,1011,1011,1011,0,1011,0,1426,1426,0,1426,0,1426,1426,1011,1426,1426,1426,0,1426,0,1426,1426,1011,1426,1426,1426,0,1426,0,1426,1426,1011,1426,1426,1428,1,1,1,1,0,1,0,0,0,0,1429,1429,0,0,1429,1010,0,1010,1009,0,0,0,1002,0,0,0,0,1431,1431,1431,1431,1431,1431,1431,1431,1431,1431,0,0,1431,0,0,0,0,0,0,0,0,0,0,0,0,0,0,0,0,0,0,0,0,0,0,0,0,0,0,0,0,0,0,0,0,0,1433,0,1433,0,0,0,0,0,0,0,0,1434,1434,1434,1434,1434,1434,0,0,0,0,0,0,0,1434,0,0,0,0,0,0,1435,1435,0,1435,0,0,1433,1433,0,1435,1435,1435,1435,1435,1435,1435,1435,0,1435,0,1435,1435,1435,0,0,0,0,1433,0,1434,1436,0,1436,1433,0,0,1433,1433,1433,1434,1434,1433,0,0,0,0,1433,0,0,1433,0,1433,0,0,0,1433,0,1433,1438,1438,1438,1434,1434,1433,0,0,0,0,1433,0,0,1433,0,1433,0,0,0,1433,0,1438,1438,1438,1433,1433,0,1433,1433,0,1433,1433,1431,1431,1430,1430,1429,1429,1,1,1433,1433,1433,1439,1439,1433,1439,1439,1439,1430,1433,1433,1433,1440,1440,1433,1440,1440,1440,1429,1433,1433,1433,1441,1441,0,0,0,0,0,1433,0,0,1433,1441,1441,1429,1429,1429,1433,0,0,0,0,0,0,0,1433,0,0,1433,0,0,0,1433,1433,0,1438,1429,1429,1429,1429,1,0,0]
noncomputable def ceA1_1 : List Nat := [1425,1425,1425,0,1425,0,1425,1020,1020,1020,0,1020,0,1426,1426,0,1426,0,1426,1426,1020,1426,1426,1426,0,1426,0,1426,1426,1020,1426,1426,1426,0,1426,0,1426,1426,1020,1426,1426,1428,1,1,1,1,0,1,0,0,0,0,1429,1429,0,0,1429,1019,0,1019,1018,0,0,0,1002,0,0,0,0,1431,1431,1431,1431,1431,1431,1431,1431,1431,1431,0,0,1431,0,0,0,0,0,0,0,0,0,0,0,0,0,0,0,0,0,0,0,0,0,0,0,0,0,0,0,0,0,0,0,0,0,0,0,0,1433,0,1433,0,0,0,0,0,0,0,0,1434,1434,1434,1434,1434,1434,0,0,0,0,0,0,0,1434,0,0,0,0,0,0,1435,1435,0,1435,0,0,1433,1433,0,1435,1435,1435,1435,1435,1435,1435,1435,0,1435,0,1435,1435,1435,0,0,0,0,1433,0,1434,1436,0,1436,1433,0,0,1433,1433,1433,1434,1434,1433,0,0,0,0,1433,0,0,1433,0,1433,0,0,0,1433,0,1433,1438,1438,1438,1434,1434,1433,0,0,0,0,1433,0,0,1433,0,1433,0,0,0,1433,0,1438,1438,1438,1433,1433,0,1433,1433,0,1433,1433,1431,1431,1430,1430,1429,1429,1,1,1433,1433,1433,1439,1439,1433,1439,1439,1439,1430,1433,1433,1433,1440,1440,1433,1440,1440,1440,1429,1433,1433,1433,1441,1441,0,0,0,0,0,1433,0,0,1433,1441,1441,1429,1429,1429,1433,0,0,0,0,0,0,0,1433,0,0,1433,0,0,0,1433,1433,0,1438,1429,1429,1429,1429,1,0,0]
noncomputable def ceA1_2 : List Nat := [1425,1425,1425,0,1425,0,1425,1029,1029,1029,0,1029,0,1426,1426,0,1426,0,1426,1426,1029,1426,1426,1426,0,1426,0,1426,1426,1029,1426,1426,1426,0,1426,0,1426,1426,1029,1426,1426,1428,1,1,1,1,0,1,0,0,0,0,1429,1429,0,0,1429,1028,0,1028,1027,0,0,0,1002,0,0,0,0,1431,1431,1431,1431,1431,1431,1431,1431,1431,1431,0,0,1431,0,0,0,0,0,1431,1431,7,0,0,0,0,7,0,0,0,7,7,0,6,16,16,0,16,5,16,0,0,0,0,0,0,0,0,0,0,0,0,0,0,0,0,0,0,0,0,0,0,0,0,0,0,0,0,0,0,0,1433,0,1433,0,0,0,0,0,0,0,0,1434,1434,1434,1434,1434,1434,0,0,0,0,0,0,0,1434,0,0,0,0,0,0,1435,1435,0,1435,0,0,1433,1433,0,1435,1435,1435,1435,1435,1435,1435,1435,0,1435,0,1435,1435,1435,0,0,0,0,1433,0,1434,1436,0,1436,1433,0,0,1433,1433,1433,1434,1434,1433,0,0,0,0,1433,0,0,1433,0,1433,0,0,0,1433,0,1433,1438,1438,1438,1434,1434,1433,0,0,0,0,1433,0,0,1433,0,1433,0,0,0,1433,0,1438,1438,1438,1433,1433,0,1433,1433,0,1433,1433,1431,1431,1430,1430,1429,1429,1,1,1433,1433,1433,1439,1439,1433,1439,1439,1439,1430,1433,1433,1433,1440,1440,1433,1440,1440,1440,1429,1433,1433,1433,1441,1441,0,0,0,0,0,1433,0,0,1433,1441,1441,1429,1429,1429,1433,0,0,0,0,0,0,0,1433,0,0,1433,0,0,0,1433,1433,0,1438,1429,1429,1429,1429,1,0,0]
noncomputable def ceA1_3 : List Nat := [1425,1425,1425,0,1425,0,1425,1038,1038,1038,0,1038,0,1426,1426,0,1426,0,1426,1426,1038,1426,1426,1426,0,1426,0,1426,1426,1038,1426,1426,1426,0,1426,0,1426,1426,1038,1426,1426,1428,1,1,1,1,0,1,0,0,0,0,1429,1429,0,0,1429,1037,0,1037,1036,0,0,0,1002,0,0,0,0,1431,1431,1431,1431,1431,1431,1431,1431,1431,1431,0,0,1431,0,0,0,0,0,1431,1431,7,0,0,0,0,7,0,0,0,7,7,0,6,16,16,0,16,0,0,0,16,0,1431,1431,1431,0,0,0,0,1432,1432,1432,1432,1432,1432,0,0,1432,7,0,0,0,0,7,0,0,0,7,7,0,6,16,16,0,16,0,16,16,16,1433,0,1433,0,1433,0,1433,1433,16,16,1433,1433,1433,1433,1433,1432,1432,1432,7,0,0,0,0,7,0,0,0,7,7,0,6,1432,16,16,16,0,16,4,16,0,1432,1432,1432,34,34,34,0,34,1,34,1432,0,0,1432,1434,1434,0,1434,8,1434,0,0,0,0,0,0,0,0,0,0,0,0,0,0,0,0,0,0,0,0,0,0,0,0,0,0,0,0,0,0,0,1436,0,1436,0,0,0,0,0,0,0,0,1437,1437,1437,1437,1437,1437,0,0,0,0,0,0,0,1437,0,0,0,0,0,0,1438,1438,0,1438,0,0,1436,1436,0,1438,1438,1438,1438,1438,1438,1438,1438,0,1438,0,1438,1438,1438,0,0,0,0,1436,0,1437,1439,0,1439,1436,0,0,1436,1436,1436,1437,1437,1436,0,0,0,0,1436,0,0,1436,0,1436,0,0,0,1436,0,1436,1441,1441,1441,1437,1437,1436,0,0,0,0,1436,0,0,1436,0,1436,0,0,0,1436,0,1441,1441,1441,1436,1436,0,1436,1436,0,1436,1436,1431,1431,1430,1430,1429,1429,1,1,1436,1436,1436,1442,1442,1436,1442,1442,1442,1430,1436,1436,1436,1443,1443,1436,1443,1443,1443,1429,1436,1436,1436,1444,1444,0,0,0,0,0,1436,0,0,1436,1444,1444,1429,1429,1429,1436,0,0,0,0,0,0,0,1436,0,0,1436,0,0,0,1436,1436,0,1441,1429,1429,1429,1429,1,0,0]
noncomputable def ceA1_4 : List Nat := [1425,1425,1425,0,1425,0,1425,1047,1047,1047,0,1047,0,1426,1426,0,1426,0,1426,1426,1047,1426,1426,1426,0,1426,0,1426,1426,1047,1426,1426,1426,0,1426,0,1426,1426,1047,1426,1426,1428,1,1,1,1,0,1,0,0,0,0,1429,1429,0,0,1429,1046,0,1046,1045,0,0,0,1002,0,0,0,0,1431,1431,1431,1431,1431,1431,1431,1431,1431,1431,0,0,1431,0,0,0,0,0,1431,1431,7,0,0,0,0,7,0,0,0,7,7,0,6,16,16,0,16,0,0,0,16,0,1431,1431,1431,0,0,0,0,1432,1432,1432,1432,1432,1432,0,0,1432,7,0,0,0,0,7,0,0,0,7,7,0,6,16,16,0,16,0,16,16,16,1433,0,1433,0,1433,0,1433,1433,16,16,1433,1433,1433,1433,1433,1432,1432,1432,7,0,0,0,0,7,0,0,0,7,7,0,6,1432,16,16,16,0,16,4,16,0,1432,1432,1432,34,34,34,0,34,1,34,1432,0,0,0,1433,0,1433,0,1433,1433,16,16,1433,1433,1433,1433,1433,1432,1432,1432,7,0,0,0,0,7,0,0,0,7,7,0,6,1432,16,16,16,0,16,4,16,0,1432,1432,1432,47,47,47,0,47,1,47,1432,0,0,1432,1434,1434,0,1434,8,1434,1432,47,47,47,0,47,1,47,1435,1435,0,1435,8,1435,0,0,0,0,0,0,0,0,0,0,0,0,0,0,0,0,0,0,0,0,0,0,0,0,0,0,0,0,0,0,0,1437,0,1437,0,0,0,0,0,0,0,0,1438,1438,1438,1438,1438,1438,0,0,0,0,0,0,0,1438,0,0,0,0,0,0,1439,1439,0,1439,0,0,1437,1437,0,1439,1439,1439,1439,1439,1439,1439,1439,0,1439,0,1439,1439,1439,0,0,0,0,1437,0,1438,1440,0,1440,1437,0,0,1437,1437,1437,1438,1438,1437,0,0,0,0,1437,0,0,1437,0,1437,0,0,0,1437,0,1437,1442,1442,1442,1438,1438,1437,0,0,0,0,1437,0,0,1437,0,1437,0,0,0,1437,0,1442,1442,1442,1437,1437,0,1437,1437,0,1437,1437,1431,1431,1430,1430,1429,1429,1,1,1437,1437,1437,1443,1443,1437,1443,1443,1443,1430,1437,1437,1437,1444,1444,1437,1444,1444,1444,1429,1437,1437,1437,1445,1445,0,0,0,0,0,1437,0,0,1437,1445,1445,1429,1429,1429,1437,0,0,0,0,0,0,0,1437,0,0,1437,0,0,0,1437,1437,0,1442,1429,1429,1429,1429,1,0,0]
noncomputable def ceA1_5 : List Nat := [1425,1425,1425,0,1425,0,1425,1056,1056,1056,0,1056,0,1426,1426,0,1426,0,1426,1426,1056,1426,1426,1426,0,1426,0,1426,1426,1056,1426,1426,1426,0,1426,0,1426,1426,1056,1426,1426,1428,1,1,1,1,0,1,0,0,0,0,1429,1429,0,0,1429,1055,0,1055,1054,0,0,0,1002,0,0,0,0,1431,1431,1431,1431,1431,1431,1431,1431,1431,1431,0,0,1431,0,0,0,0,0,1431,1431,7,0,0,0,0,7,0,0,0,7,7,0,6,16,16,0,16,0,0,0,16,0,1431,1431,1431,0,0,0,0,1432,1432,1432,1432,1432,1432,0,0,1432,7,0,0,0,0,7,0,0,0,7,7,0,6,16,16,0,16,0,16,16,16,1433,0,1433,0,1433,0,1433,1433,16,16,1433,1433,1433,1433,1433,1432,1432,1432,7,0,0,0,0,7,0,0,0,7,7,0,6,1432,16,16,16,0,16,4,16,0,1432,1432,1432,34,34,34,0,34,1,34,1432,0,0,0,1433,0,1433,0,1433,1433,16,16,1433,1433,1433,1433,1433,1432,1432,1432,7,0,0,0,0,7,0,0,0,7,7,0,6,1432,16,16,16,0,16,4,16,0,1432,1432,1432,47,47,47,0,47,1,47,1432,0,0,0,1433,0,1433,0,1433,1433,16,16,1433,1433,1433,1433,1433,1432,1432,1432,7,0,0,0,0,7,0,0,0,7,7,0,6,1432,16,16,16,0,16,4,16,0,1432,1432,1432,60,60,60,0,60,1,60,1432,0,0,0,1433,0,1433,0,1433,1433,16,16,1433,1433,1433,1435,0,0,1431,0,0,0,0,1436,1436,0,0,0,0,1436,0,0,0,0,0,0,0,0,0,0,0,0,0,0,0,0,0,0,0,0,0,0,0,0,0,0,0,0,0,0,0,0,0,0,0,0,0,1438,0,1438,0,0,0,0,0,0,0,0,1439,1439,1439,1439,1439,1439,0,0,0,0,0,0,0,1439,0,0,0,0,0,0,1440,1440,0,1440,0,0,1438,1438,0,1440,1440,1440,1440,1440,1440,1440,1440,0,1440,0,1440,1440,1440,0,0,0,0,1438,0,1439,1441,0,1441,1438,0,0,1438,1438,1438,1439,1439,1438,0,0,0,0,1438,0,0,1438,0,1438,0,0,0,1438,0,1438,1443,1443,1443,1439,1439,1438,0,0,0,0,1438,0,0,1438,0,1438,0,0,0,1438,0,1443,1443,1443,1438,1438,0,1438,1438,0,1438,1438,1436,1436,1431,1431,1430,1430,1429,1429,1,1,1438,1438,1438,1444,1444,1438,1444,1444,1444,1431,1438,1438,1438,1445,1445,1438,1445,1445,1445,1430,1438,1438,1438,1446,1446,1438,1446,1446,1446,1429,1438,1438,1438,1447,1447,0,0,0,0,0,1438,0,0,1438,1447,1447,1429,1429,1429,1438,0,0,0,0,0,0,0,1438,0,0,1438,0,0,0,1438,1438,0,1443,1429,1429,1429,1429,1,0,0]
noncomputable def ceA1_6 : List Nat := [1425,1425,1425,0,1425,0,1425,1065,1065,1065,0,1065,0,1426,1426,0,1426,0,1426,1426,1065,1426,1426,1426,0,1426,0,1426,1426,1065,1426,1426,1426,0,1426,0,1426,1426,1065,1426,1426,1428,1,1,1,1,0,1,0,0,0,0,1429,1429,0,0,1429,1064,0,1064,1063,0,0,0,1002,0,0,0,0,1431,1431,1431,1431,1431,1431,1431,1431,1431,1431,0,0,1431,0,0,0,0,0,1431,1431,7,0,0,0,0,7,0,0,0,7,7,0,6,16,16,0,16,0,0,0,16,0,1431,1431,1431,0,0,0,0,1432,1432,1432,1432,1432,1432,0,0,1432,7,0,0,0,0,7,0,0,0,7,7,0,6,16,16,0,16,0,16,16,16,1433,0,1433,0,1433,0,1433,1433,16,16,1433,1433,1433,1433,1433,1432,1432,1432,7,0,0,0,0,7,0,0,0,7,7,0,6,1432,16,16,16,0,16,4,16,0,1432,1432,1432,34,34,34,0,34,1,34,1432,0,0,0,1433,0,1433,0,1433,1433,16,16,1433,1433,1433,1433,1433,1432,1432,1432,7,0,0,0,0,7,0,0,0,7,7,0,6,1432,16,16,16,0,16,4,16,0,1432,1432,1432,47,47,47,0,47,1,47,1432,0,0,0,1433,0,1433,0,1433,1433,16,16,1433,1433,1433,1433,1433,1432,1432,1432,7,0,0,0,0,7,0,0,0,7,7,0,6,1432,16,16,16,0,16,4,16,0,1432,1432,1432,60,60,60,0,60,1,60,1432,0,0,0,1433,0,1433,0,1433,1433,16,16,1433,1433,1433,1435,0,0,1431,0,0,0,0,1436,1436,0,0,0,0,1436,0,0,0,0,0,0,0,0,0,1436,0,0,1437,4,12,1437,0,1437,0,1437,0,1437,1437,1437,1437,1439,1439,0,0,1439,0,0,0,0,0,0,1439,0,0,0,0,0,1437,0,1437,0,1437,1437,1437,1437,1439,1439,0,0,1439,0,0,0,0,0,0,1439,0,0,0,0,0,1437,0,1437,0,1437,1437,1437,1437,1439,1439,0,0,1439,0,0,0,0,0,0,1439,0,0,0,0,0,1437,0,1437,0,1437,1437,1437,1437,1441,1439,1439,1439,1438,1442,1438,0,1438,11,1438,1442,1436,1431,0,0,1431,0,0,0,0,0,0,0,0,0,0,0,0,0,0,0,0,0,0,0,0,0,0,0,0,0,0,0,0,0,0,0,0,0,1444,0,1444,0,0,0,0,0,0,0,0,1445,1445,1445,1445,1445,1445,0,0,0,0,0,0,0,1445,0,0,0,0,0,0,1446,1446,0,1446,0,0,1444,1444,0,1446,1446,1446,1446,1446,1446,1446,1446,0,1446,0,1446,1446,1446,0,0,0,0,1444,0,1445,1447,0,1447,1444,0,0,1444,1444,1444,1445,1445,1444,0,0,0,0,1444,0,0,1444,0,1444,0,0,0,1444,0,1444,1449,1449,1449,1445,1445,1444,0,0,0,0,1444,0,0,1444,0,1444,0,0,0,1444,0,1449,1449,1449,1444,1444,0,1444,1444,0,1444,1444,1431,1431,1430,1430,1429,1429,1,1,1444,1444,1444,1450,1450,1444,1450,1450,1450,1430,1444,1444,1444,1451,1451,1444,1451,1451,1451,1429,1444,1444,1444,1452,1452,0,0,0,0,0,1444,0,0,1444,1452,1452,1429,1429,1429,1444,0,0,0,0,0,0,0,1444,0,0,1444,0,0,0,1444,1444,0,1449,1429,1429,1429,1429,1,0,0]
noncomputable def ceA1_7 : List Nat := [1425,1425,1425,0,1425,0,1425,1074,1074,1074,0,1074,0,1426,1426,0,1426,0,1426,1426,1074,1426,1426,1426,0,1426,0,1426,1426,1074,1426,1426,1426,0,1426,0,1426,1426,1074,1426,1426,1428,1,1,1,1,0,1,0,0,0,0,1429,1429,0,0,1429,1073,0,1073,1072,0,0,0,1002,0,0,0,0,1431,1431,1431,1431,1431,1431,1431,1431,1431,1431,0,0,1431,0,0,0,0,0,1431,1431,7,0,0,0,0,7,0,0,0,7,7,0,6,16,16,0,16,0,0,0,16,0,1431,1431,1431,0,0,0,0,1432,1432,1432,1432,1432,1432,0,0,1432,7,0,0,0,0,7,0,0,0,7,7,0,6,16,16,0,16,0,16,16,16,1433,0,1433,0,1433,0,1433,1433,16,16,1433,1433,1433,1433,1433,1432,1432,1432,7,0,0,0,0,7,0,0,0,7,7,0,6,1432,16,16,16,0,16,4,16,0,1432,1432,1432,34,34,34,0,34,1,34,1432,0,0,0,1433,0,1433,0,1433,1433,16,16,1433,1433,1433,1433,1433,1432,1432,1432,7,0,0,0,0,7,0,0,0,7,7,0,6,1432,16,16,16,0,16,4,16,0,1432,1432,1432,47,47,47,0,47,1,47,1432,0,0,0,1433,0,1433,0,1433,1433,16,16,1433,1433,1433,1433,1433,1432,1432,1432,7,0,0,0,0,7,0,0,0,7,7,0,6,1432,16,16,16,0,16,4,16,0,1432,1432,1432,60,60,60,0,60,1,60,1432,0,0,0,1433,0,1433,0,1433,1433,16,16,1433,1433,1433,1435,0,0,1431,0,0,0,0,1436,1436,0,0,0,0,1436,0,0,0,0,0,0,0,0,0,1436,0,0,1437,4,12,1437,0,1437,0,1437,0,1437,1437,1437,1437,1439,1439,0,0,1439,0,0,0,0,0,0,1439,0,0,0,0,0,1437,0,1437,0,1437,1437,1437,1437,1439,1439,0,0,1439,0,0,0,0,0,0,1439,0,0,0,0,0,1437,0,1437,0,1437,1437,1437,1437,1439,1439,0,0,1439,0,0,0,0,0,0,1439,0,0,0,0,0,1437,0,1437,0,1437,1437,1437,1437,1441,1439,1439,1439,1438,1442,1438,0,1438,11,1438,1442,1436,1431,0,0,1431,0,0,0,0,0,0,0,0,0,0,0,0,0,0,0,0,0,0,0,0,0,0,0,0,0,0,0,0,0,0,0,0,0,0,0,0,1444,0,1444,0,0,0,0,0,0,0,0,1445,1445,1445,1445,1445,1445,0,0,0,0,0,0,0,1445,0,0,0,0,0,0,1446,1446,0,1446,0,0,1444,1444,0,1446,1446,1446,1446,1446,1446,1446,1446,0,1446,0,1446,1446,1446,0,0,0,0,1444,0,1445,1447,0,1447,1444,0,0,1444,1444,1444,1445,1445,1444,0,0,0,0,1444,0,0,1444,0,1444,0,0,0,1444,0,1444,1449,1449,1449,1445,1445,1444,0,0,0,0,1444,0,0,1444,0,1444,0,0,0,1444,0,1449,1449,1449,1444,1444,0,1444,1444,0,1444,1444,1431,1431,1430,1430,1429,1429,1,1,1444,1444,1444,1450,1450,1444,1450,1450,1450,1430,1444,1444,1444,1451,1451,1444,1451,1451,1451,1429,1444,1444,1444,1452,1452,0,0,0,0,0,1444,0,0,1444,1452,1452,1429,1429,1429,1444,0,0,0,0,0,0,0,1444,0,0,1444,0,0,0,1444,1444,0,1449,1429,1429,1429,1429,1,0,0]
noncomputable def ceA1_8 : List Nat := [1425,1425,1425,0,1425,0,1425,1083,1083,1083,0,1083,0,1426,1426,0,1426,0,1426,1426,1083,1426,1426,1426,0,1426,0,1426,1426,1083,1426,1426,1426,0,1426,0,1426,1426,1083,1426,1426,1428,1,1,1,1,0,1,0,0,0,0,1429,1429,0,0,1429,1082,0,1082,1081,0,0,0,1002,0,0,0,0,1431,1431,1431,1431,1431,1431,1431,1431,1431,1431,0,0,1431,0,0,0,0,0,1431,1431,7,0,0,0,0,7,0,0,0,7,7,0,6,16,16,0,16,0,0,0,16,0,1431,1431,1431,0,0,0,0,1432,1432,1432,1432,1432,1432,0,0,1432,7,0,0,0,0,7,0,0,0,7,7,0,6,16,16,0,16,0,16,16,16,1433,0,1433,0,1433,0,1433,1433,16,16,1433,1433,1433,1433,1433,1432,1432,1432,7,0,0,0,0,7,0,0,0,7,7,0,6,1432,16,16,16,0,16,4,16,0,1432,1432,1432,34,34,34,0,34,1,34,1432,0,0,0,1433,0,1433,0,1433,1433,16,16,1433,1433,1433,1433,1433,1432,1432,1432,7,0,0,0,0,7,0,0,0,7,7,0,6,1432,16,16,16,0,16,4,16,0,1432,1432,1432,47,47,47,0,47,1,47,1432,0,0,0,1433,0,1433,0,1433,1433,16,16,1433,1433,1433,1433,1433,1432,1432,1432,7,0,0,0,0,7,0,0,0,7,7,0,6,1432,16,16,16,0,16,4,16,0,1432,1432,1432,60,60,60,0,60,1,60,1432,0,0,0,1433,0,1433,0,1433,1433,16,16,1433,1433,1433,1435,0,0,1431,0,0,0,0,1436,1436,0,0,0,0,1436,0,0,0,0,0,0,0,0,0,1436,0,0,1437,4,12,1437,0,1437,0,1437,0,1437,1437,1437,1437,1439,1439,0,0,1439,0,0,0,0,0,0,1439,0,0,0,0,0,1437,0,1437,0,1437,1437,1437,1437,1439,1439,0,0,1439,0,0,0,0,1439,0,1438,0,1438,1438,1438,0,1437,0,1437,0,1437,1437,1437,1437,1439,1439,0,0,1439,0,0,0,0,0,0,1439,0,0,0,0,0,1437,0,1437,0,1437,1437,1437,1437,1441,1439,1439,1439,1438,1442,1438,0,1438,11,1438,1442,0,0,0,0,0,0,0,0,0,0,0,0,0,0,0,0,0,0,0,0,0,0,0,0,0,0,0,0,0,0,0,1444,0,1444,0,0,0,0,0,0,0,0,1445,1445,1445,1445,1445,1445,0,0,0,0,0,0,0,1445,0,0,0,0,0,0,1446,1446,0,1446,0,0,1444,1444,0,1446,1446,1446,1446,1446,1446,1446,1446,0,1446,0,1446,1446,1446,0,0,0,0,1444,0,1445,1447,0,1447,1444,0,0,1444,1444,1444,1445,1445,1444,0,0,0,0,1444,0,0,1444,0,1444,0,0,0,1444,0,1444,1449,1449,1449,1445,1445,1444,0,0,0,0,1444,0,0,1444,0,1444,0,0,0,1444,0,1449,1449,1449,1444,1444,0,1444,1444,0,1444,1444,1436,1436,1431,1431,1430,1430,1429,1429,1,1,1444,1444,1444,1450,1450,1444,1450,1450,1450,1431,1444,1444,1444,1451,1451,1444,1451,1451,1451,1430,1444,1444,1444,1452,1452,1444,1452,1452,1452,1429,1444,1444,1444,1453,1453,0,0,0,0,0,1444,0,0,1444,1453,1453,1429,1429,1429,1444,0,0,0,0,0,0,0,1444,0,0,1444,0,0,0,1444,1444,0,1449,1429,1429,1429,1429,1,0,0]
noncomputable def ceA1_9 : List Nat := [1425,1425,1425,0,1425,0,1425,1092,1092,1092,0,1092,0,1426,1426,0,1426,0,1426,1426,1092,1426,1426,1426,0,1426,0,1426,1426,1092,1426,1426,1426,0,1426,0,1426,1426,1092,1426,1426,1428,1,1,1,1,0,1,0,0,0,0,1429,1429,0,0,1429,1091,0,1091,1090,0,0,0,1002,0,0,0,0,0,0,0,0,1431,1431,1431,1431,1431,1431,1431,1431,1431,1431,0,0,1431,0,0,0,0,0,1431,1431,7,0,0,0,0,7,0,0,0,7,7,0,6,16,16,0,16,0,0,0,16,0,1431,1431,1431,0,0,0,0,1432,1432,1432,1432,1432,1432,0,0,1432,7,0,0,0,0,7,0,0,0,7,7,0,6,16,16,0,16,0,16,16,16,1433,0,1433,0,1433,0,1433,1433,16,16,1433,1433,1433,1433,1433,1432,1432,1432,7,0,0,0,0,7,0,0,0,7,7,0,6,1432,16,16,16,0,16,4,16,0,1432,1432,1432,34,34,34,0,34,1,34,1432,0,0,0,1433,0,1433,0,1433,1433,16,16,1433,1433,1433,1433,1433,1432,1432,1432,7,0,0,0,0,7,0,0,0,7,7,0,6,1432,16,16,16,0,16,4,16,0,1432,1432,1432,47,47,47,0,47,1,47,1432,0,0,0,1433,0,1433,0,1433,1433,16,16,1433,1433,1433,1433,1433,1432,1432,1432,7,0,0,0,0,7,0,0,0,7,7,0,6,1432,16,16,16,0,16,4,16,0,1432,1432,1432,60,60,60,0,60,1,60,1432,0,0,0,1433,0,1433,0,1433,1433,16,16,1433,1433,1433,1435,0,0,1431,0,0,0,0,1436,1436,0,0,0,0,1436,0,0,0,0,0,0,0,0,0,0,0,0,0,0,0,0,0,0,0,0,0,0,0,0,0,0,0,0,0,0,0,0,0,0,0,0,0,0,0,0,1438,0,1438,0,0,0,0,0,0,0,0,1439,1439,1439,1439,1439,1439,0,0,0,0,0,0,0,1439,0,0,0,0,0,0,1440,1440,0,1440,0,0,1438,1438,0,1440,1440,1440,1440,1440,1440,1440,1440,0,1440,0,1440,1440,1440,0,0,0,0,1438,0,1439,1441,0,1441,1438,0,0,1438,1438,1438,1439,1439,1438,0,0,0,0,1438,0,0,1438,0,1438,0,0,0,1438,0,1438,1443,1443,1443,1439,1439,1438,0,0,0,0,1438,0,0,1438,0,1438,0,0,0,1438,0,1443,1443,1443,1438,1438,0,1438,1438,0,1438,1438,1436,1436,1431,1431,1430,1430,1429,1429,1,1,1438,1438,1438,1444,1444,1438,1444,1444,1444,1431,1438,1438,1438,1445,1445,1438,1445,1445,1445,1430,1438,1438,1438,1446,1446,1438,1446,1446,1446,1429,1438,1438,1438,1447,1447,0,0,0,0,0,1438,0,0,1438,1447,1447,1429,1429,1429,1438,0,0,0,0,0,0,0,1438,0,0,1438,0,0,0,1438,1438,0,1443,1429,1429,1429,1429,1,0,0]
noncomputable def ceA1_10 : List Nat := [1425,1425,1425,0,1425,0,1425,1101,1101,1101,0,1101,0,1426,1426,0,1426,0,1426,1426,1101,1426,1426,1426,0,1426,0,1426,1426,1101,1426,1426,1426,0,1426,0,1426,1426,1101,1426,1426,1428,1,1,1,1,0,1,0,0,0,0,1429,1429,0,0,1429,1100,0,1100,1099,0,0,0,1002,0,0,0,0,0,0,0,0,0,0,1431,1431,1431,1431,1431,1431,1431,1431,1431,1431,0,0,1431,0,0,0,0,0,1431,1431,7,0,0,0,0,7,0,0,0,7,7,0,6,16,16,0,16,0,0,0,16,0,1431,1431,1431,0,0,0,0,1432,1432,1432,1432,1432,1432,0,0,1432,7,0,0,0,0,7,0,0,0,7,7,0,6,16,16,0,16,0,16,16,16,1433,0,1433,0,1433,0,1433,1433,16,16,1433,1433,1433,1433,1433,1432,1432,1432,7,0,0,0,0,7,0,0,0,7,7,0,6,1432,16,16,16,0,16,4,16,0,1432,1432,1432,34,34,34,0,34,1,34,1432,0,0,0,1433,0,1433,0,1433,1433,16,16,1433,1433,1433,1433,1433,1432,1432,1432,7,0,0,0,0,7,0,0,0,7,7,0,6,1432,16,16,16,0,16,4,16,0,1432,1432,1432,47,47,47,0,47,1,47,1432,0,0,0,1433,0,1433,0,1433,1433,16,16,1433,1433,1433,1433,1433,1432,1432,1432,7,0,0,0,0,7,0,0,0,7,7,0,6,1432,16,16,16,0,16,4,16,0,1432,1432,1432,60,60,60,0,60,1,60,1432,0,0,0,1433,0,1433,0,1433,1433,16,16,1433,1433,1433,1435,0,0,1431,0,0,0,0,1436,1436,0,0,0,0,1436,0,0,0,0,0,0,0,0,0,1436,0,0,1437,4,12,1437,0,1437,0,1437,0,1437,1437,1437,1437,1439,1439,0,0,1439,0,0,0,0,0,0,1439,0,0,0,0,0,1437,0,1437,0,1437,1437,1437,1437,1439,1439,0,0,1439,0,0,0,0,0,0,1439,0,0,0,0,1439,0,1438,0,1438,1438,1438,0,1437,0,1437,0,1437,1437,1437,1437,1441,1439,1439,1439,1438,1442,1438,0,1438,11,1438,1442,0,0,0,0,0,0,0,0,0,0,0,0,0,0,0,0,0,0,0,0,0,0,0,0,0,0,0,0,0,0,0,1444,0,1444,0,0,0,0,0,0,0,0,1445,1445,1445,1445,1445,1445,0,0,0,0,0,0,0,1445,0,0,0,0,0,0,1446,1446,0,1446,0,0,1444,1444,0,1446,1446,1446,1446,1446,1446,1446,1446,0,1446,0,1446,1446,1446,0,0,0,0,1444,0,1445,1447,0,1447,1444,0,0,1444,1444,1444,1445,1445,1444,0,0,0,0,1444,0,0,1444,0,1444,0,0,0,1444,0,1444,1449,1449,1449,1445,1445,1444,0,0,0,0,1444,0,0,1444,0,1444,0,0,0,1444,0,1449,1449,1449,1444,1444,0,1444,1444,0,1444,1444,1436,1436,1431,1431,1430,1430,1429,1429,1,1,1444,1444,1444,1450,1450,1444,1450,1450,1450,1431,1444,1444,1444,1451,1451,1444,1451,1451,1451,1430,1444,1444,1444,1452,1452,1444,1452,1452,1452,1429,1444,1444,1444,1453,1453,0,0,0,0,0,1444,0,0,1444,1453,1453,1429,1429,1429,1444,0,0,0,0,0,0,0,1444,0,0,1444,0,0,0,1444,1444,0,1449,1429,1429,1429,1429,1,0,0]
noncomputable def ceA1_11 : List Nat := [1425,1425,1425,0,1425,0,1425,1110,1110,1110,0,1110,0,1426,1426,0,1426,0,1426,1426,1110,1426,1426,1426,0,1426,0,1426,1426,1110,1426,1426,1426,0,1426,0,1426,1426,1110,1426,1426,1428,1,1,1,1,0,1,0,0,0,0,1429,1429,0,0,1429,1109,0,1109,1108,0,0,0,1002,0,0,0,0,1431,1431,1431,1431,1431,1431,1431,1431,1431,1431,0,0,1431,0,0,0,0,0,1431,1431,7,0,0,0,0,7,0,0,0,7,7,0,6,16,16,0,16,0,0,0,16,0,1431,1431,1431,0,0,0,0,1432,1432,1432,1432,1432,1432,0,0,1432,7,0,0,0,0,7,0,0,0,7,7,0,6,16,16,0,16,0,16,16,16,1433,0,1433,0,1433,0,1433,1433,16,16,1433,1433,1433,1433,1433,1432,1432,1432,7,0,0,0,0,7,0,0,0,7,7,0,6,1432,16,16,16,0,16,4,16,0,1432,1432,1432,34,34,34,0,34,1,34,1432,0,0,0,1433,0,1433,0,1433,1433,16,16,1433,1433,1433,1433,1433,1432,1432,1432,7,0,0,0,0,7,0,0,0,7,7,0,6,1432,16,16,16,0,16,4,16,0,1432,1432,1432,47,47,47,0,47,1,47,1432,0,0,0,1433,0,1433,0,1433,1433,16,16,1433,1433,1433,1433,1433,1432,1432,1432,7,0,0,0,0,7,0,0,0,7,7,0,6,1432,16,16,16,0,16,4,16,0,1432,1432,1432,60,60,60,0,60,1,60,1432,0,0,0,1433,0,1433,0,1433,1433,16,16,1433,1433,1433,1435,0,0,1431,0,0,0,0,1436,1436,0,0,0,0,1436,0,0,0,0,0,0,0,0,0,1436,0,0,1437,4,12,1437,0,1437,0,1437,0,1437,1437,1437,1437,1439,1439,0,0,1439,0,0,0,0,0,0,1439,0,0,0,0,0,1437,0,1437,0,1437,1437,1437,1437,1439,1439,0,0,1439,0,0,0,0,0,0,1439,0,0,0,0,0,1437,0,1437,0,1437,1437,1437,1437,1439,1439,0,0,1439,0,0,0,0,0,0,1439,0,0,0,0,0,1437,0,1437,0,1437,1437,1437,1437,1441,1439,1439,1439,1438,1442,1438,0,1438,11,1438,1442,1436,1431,0,0,1431,0,0,1431,1431,7,0,0,0,0,7,0,0,0,7,7,0,6,21,21,0,21,0,0,0,21,0,0,0,0,0,0,0,0,0,0,0,0,0,0,0,0,0,0,0,0,0,0,0,0,0,0,0,0,0,0,0,1444,0,1444,0,0,0,0,0,0,0,0,1445,1445,1445,1445,1445,1445,0,0,0,0,0,0,0,1445,0,0,0,0,0,0,1446,1446,0,1446,0,0,1444,1444,0,1446,1446,1446,1446,1446,1446,1446,1446,0,1446,0,1446,1446,1446,0,0,0,0,1444,0,1445,1447,0,1447,1444,0,0,1444,1444,1444,1445,1445,1444,0,0,0,0,1444,0,0,1444,0,1444,0,0,0,1444,0,1444,1449,1449,1449,1445,1445,1444,0,0,0,0,1444,0,0,1444,0,1444,0,0,0,1444,0,1449,1449,1449,1444,1444,0,1444,1444,0,1444,1444,1431,1431,1430,1430,1429,1429,1,1,1444,1444,1444,1450,1450,1444,1450,1450,1450,1430,1444,1444,1444,1451,1451,1444,1451,1451,1451,1429,1444,1444,1444,1452,1452,0,0,0,0,0,1444,0,0,1444,1452,1452,1429,1429,1429,1444,0,0,0,0,0,0,0,1444,0,0,1444,0,0,0,1444,1444,0,1449,1429,1429,1429,1429,1,0,0]
noncomputable def ceA1_12 : List Nat := [1425,1425,1425,0,1425,0,1425,1119,1119,1119,0,1119,0,1426,1426,0,1426,0,1426,1426,1119,1426,1426,1426,0,1426,0,1426,1426,1119,1426,1426,1426,0,1426,0,1426,1426,1119,1426,1426,1428,1,1,1,1,0,1,0,0,0,0,1429,1429,0,0,1429,1118,0,1118,1117,0,0,0,1002,0,0,0,0,1431,1431,1431,1431,1431,1431,1431,1431,1431,1431,0,0,1431,0,0,0,0,0,1431,1431,7,0,0,0,0,7,0,0,0,7,7,0,6,16,16,0,16,0,0,0,16,0,1431,1431,1431,0,0,0,0,1432,1432,1432,1432,1432,1432,0,0,1432,7,0,0,0,0,7,0,0,0,7,7,0,6,16,16,0,16,0,16,16,16,1433,0,1433,0,1433,0,1433,1433,16,16,1433,1433,1433,1433,1433,1432,1432,1432,7,0,0,0,0,7,0,0,0,7,7,0,6,1432,16,16,16,0,16,4,16,0,1432,1432,1432,34,34,34,0,34,1,34,1432,0,0,1432,1434,1434,0,1434,8,1434,0,0,0,0,0,0,0,0,0,0,0,0,0,0,0,0,0,0,0,0,0,0,0,0,0,0,0,0,0,0,0,1436,0,1436,0,0,0,0,0,0,0,0,1437,1437,1437,1437,1437,1437,0,0,0,0,0,0,0,1437,0,0,0,0,0,0,1438,1438,0,1438,0,0,1436,1436,0,1438,1438,1438,1438,1438,1438,1438,1438,0,1438,0,1438,1438,1438,0,0,0,0,1436,0,1437,1439,0,1439,1436,0,0,1436,1436,1436,1437,1437,1436,0,0,0,0,1436,0,0,1436,0,1436,0,0,0,1436,0,1436,1441,1441,1441,1437,1437,1436,0,0,0,0,1436,0,0,1436,0,1436,0,0,0,1436,0,1441,1441,1441,1436,1436,0,1436,1436,0,1436,1436,1431,1431,1430,1430,1429,1429,1,1,1436,1436,1436,1442,1442,1436,1442,1442,1442,1430,1436,1436,1436,1443,1443,1436,1443,1443,1443,1429,1436,1436,1436,1444,1444,0,0,0,0,0,1436,0,0,1436,1444,1444,1429,1429,1429,1436,0,0,0,0,0,0,0,1436,0,0,1436,0,0,0,1436,1436,0,1441,1429,1429,1429,1429,1,0,0]
noncomputable def ceA1_13 : List Nat := [1425,1425,1425,0,1425,0,1425,1128,1128,1128,0,1128,0,1426,1426,0,1426,0,1426,1426,1128,1426,1426,1426,0,1426,0,1426,1426,1128,1426,1426,1426,0,1426,0,1426,1426,1128,1426,1426,1428,1,1,1,1,0,1,0,0,0,0,1429,1429,0,0,1429,1127,0,1127,1126,0,0,0,1002,0,0,0,0,1431,1431,1431,1431,1431,1431,1431,1431,1431,1431,0,0,1431,0,0,0,0,0,1431,1431,7,0,0,0,0,7,0,0,0,7,7,0,6,16,16,0,16,0,0,0,16,0,1431,1431,1431,0,0,0,0,1432,1432,1432,1432,1432,1432,0,0,1432,7,0,0,0,0,7,0,0,0,7,7,0,6,16,16,0,16,0,16,16,16,1433,0,1433,0,1433,0,1433,1433,16,16,1433,1433,1433,1433,1433,1432,1432,1432,7,0,0,0,0,7,0,0,0,7,7,0,6,1432,16,16,16,0,16,4,16,0,1432,1432,1432,34,34,34,0,34,1,34,1432,0,0,0,1433,0,1433,0,1433,1433,16,16,1433,1433,1433,1433,1433,1432,1432,1432,7,0,0,0,0,7,0,0,0,7,7,0,6,1432,16,16,16,0,16,4,16,0,1432,1432,1432,47,47,47,0,47,1,47,1432,0,0,1432,1434,1434,0,1434,8,1434,1432,47,47,47,0,47,1,47,1435,1435,0,1435,8,1435,0,0,0,0,0,0,0,0,0,0,0,0,0,0,0,0,0,0,0,0,0,0,0,0,0,0,0,0,0,0,0,1437,0,1437,0,0,0,0,0,0,0,0,1438,1438,1438,1438,1438,1438,0,0,0,0,0,0,0,1438,0,0,0,0,0,0,1439,1439,0,1439,0,0,1437,1437,0,1439,1439,1439,1439,1439,1439,1439,1439,0,1439,0,1439,1439,1439,0,0,0,0,1437,0,1438,1440,0,1440,1437,0,0,1437,1437,1437,1438,1438,1437,0,0,0,0,1437,0,0,1437,0,1437,0,0,0,1437,0,1437,1442,1442,1442,1438,1438,1437,0,0,0,0,1437,0,0,1437,0,1437,0,0,0,1437,0,1442,1442,1442,1437,1437,0,1437,1437,0,1437,1437,1431,1431,1430,1430,1429,1429,1,1,1437,1437,1437,1443,1443,1437,1443,1443,1443,1430,1437,1437,1437,1444,1444,1437,1444,1444,1444,1429,1437,1437,1437,1445,1445,0,0,0,0,0,1437,0,0,1437,1445,1445,1429,1429,1429,1437,0,0,0,0,0,0,0,1437,0,0,1437,0,0,0,1437,1437,0,1442,1429,1429,1429,1429,1,0,0]
noncomputable def ceA1_14 : List Nat := [1425,1425,1425,0,1425,0,1425,1137,1137,1137,0,1137,0,1426,1426,0,1426,0,1426,1426,1137,1426,1426,1426,0,1426,0,1426,1426,1137,1426,1426,1426,0,1426,0,1426,1426,1137,1426,1426,1428,1,1,1,1,0,1,0,0,0,0,1429,1429,0,0,1429,1136,0,1136,1135,0,0,0,1002,0,0,0,0,1431,1431,1431,1431,1431,1431,1431,1431,1431,1431,0,0,1431,0,0,0,0,0,1431,1431,7,0,0,0,0,7,0,0,0,7,7,0,6,16,16,0,16,0,0,0,16,0,1431,1431,1431,0,0,0,0,1432,1432,1432,1432,1432,1432,0,0,1432,7,0,0,0,0,7,0,0,0,7,7,0,6,16,16,0,16,0,16,16,16,1433,0,1433,0,1433,0,1433,1433,16,16,1433,1433,1433,1433,1433,1432,1432,1432,7,0,0,0,0,7,0,0,0,7,7,0,6,1432,16,16,16,0,16,4,16,0,1432,1432,1432,34,34,34,0,34,1,34,1432,0,0,0,1433,0,1433,0,1433,1433,16,16,1433,1433,1433,1433,1433,1432,1432,1432,7,0,0,0,0,7,0,0,0,7,7,0,6,1432,16,16,16,0,16,4,16,0,1432,1432,1432,47,47,47,0,47,1,47,1432,0,0,0,1433,0,1433,0,1433,1433,16,16,1433,1433,1433,1433,1433,1432,1432,1432,7,0,0,0,0,7,0,0,0,7,7,0,6,1432,16,16,16,0,16,4,16,0,1432,1432,1432,60,60,60,0,60,1,60,1432,0,0,0,1433,0,1433,0,1433,1433,16,16,1433,1433,1433,1435,0,0,1431,0,0,0,0,1436,1436,0,0,0,0,1436,0,0,0,0,0,0,0,0,0,1436,0,0,1437,4,12,1437,0,1437,0,1437,0,1437,1437,1437,1437,1439,1439,0,0,1439,0,0,0,0,0,0,1439,0,0,0,0,0,1437,0,1437,0,1437,1437,1437,1437,1439,1439,0,0,1439,0,0,0,0,1439,0,1438,0,1438,1438,1438,0,1437,0,1437,0,1437,1437,1437,1437,1439,1439,0,0,1439,0,0,0,0,0,0,1439,0,0,0,0,0,1437,0,1437,0,1437,1437,1437,1437,1441,1439,1439,1439,1438,1442,1438,0,1438,11,1438,1442,0,0,0,0,0,0,0,0,0,0,0,0,0,0,0,0,0,0,0,0,0,0,0,0,0,0,0,0,0,0,0,1444,0,1444,0,0,0,0,0,0,0,0,1445,1445,1445,1445,1445,1445,0,0,0,0,0,0,0,1445,0,0,0,0,0,0,1446,1446,0,1446,0,0,1444,1444,0,1446,1446,1446,1446,1446,1446,1446,1446,0,1446,0,1446,1446,1446,0,0,0,0,1444,0,1445,1447,0,1447,1444,0,0,1444,1444,1444,1445,1445,1444,0,0,0,0,1444,0,0,1444,0,1444,0,0,0,1444,0,1444,1449,1449,1449,1445,1445,1444,0,0,0,0,1444,0,0,1444,0,1444,0,0,0,1444,0,1449,1449,1449,1444,1444,0,1444,1444,0,1444,1444,1436,1436,1431,1431,1430,1430,1429,1429,1,1,1444,1444,1444,1450,1450,1444,1450,1450,1450,1431,1444,1444,1444,1451,1451,1444,1451,1451,1451,1430,1444,1444,1444,1452,1452,1444,1452,1452,1452,1429,1444,1444,1444,1453,1453,0,0,0,0,0,1444,0,0,1444,1453,1453,1429,1429,1429,1444,0,0,0,0,0,0,0,1444,0,0,1444,0,0,0,1444,1444,0,1449,1429,1429,1429,1429,1,0,0]
noncomputable def ceA1_15 : List Nat := [1425,1425,1425,0,1425,0,1425,1146,1146,1146,0,1146,0,1426,1426,0,1426,0,1426,1426,1146,1426,1426,1426,0,1426,0,1426,1426,1146,1426,1426,1426,0,1426,0,1426,1426,1146,1426,1426,1428,1,1,1,1,0,1,0,0,0,0,1429,1429,0,0,1429,1145,0,1145,1144,0,0,0,1002,0,0,0,0,1431,1431,1431,1431,1431,1431,1431,1431,1431,1431,0,0,1431,0,0,0,0,0,1431,1431,7,0,0,0,0,7,0,0,0,7,7,0,6,16,16,0,16,0,0,0,16,0,1431,1431,1431,0,0,0,0,1432,1432,1432,1432,1432,1432,0,0,1432,7,0,0,0,0,7,0,0,0,7,7,0,6,16,16,0,16,0,16,16,16,1433,0,1433,0,1433,0,1433,1433,16,16,1433,1433,1433,1433,1433,1432,1432,1432,7,0,0,0,0,7,0,0,0,7,7,0,6,1432,16,16,16,0,16,4,16,0,1432,1432,1432,34,34,34,0,34,1,34,1432,0,0,0,1433,0,1433,0,1433,1433,16,16,1433,1433,1433,1433,1433,1432,1432,1432,7,0,0,0,0,7,0,0,0,7,7,0,6,1432,16,16,16,0,16,4,16,0,1432,1432,1432,47,47,47,0,47,1,47,1432,0,0,0,1433,0,1433,0,1433,1433,16,16,1433,1433,1433,1433,1433,1432,1432,1432,7,0,0,0,0,7,0,0,0,7,7,0,6,1432,16,16,16,0,16,4,16,0,1432,1432,1432,60,60,60,0,60,1,60,1432,0,0,0,1433,0,1433,0,1433,1433,16,16,1433,1433,1433,1435,0,0,1431,0,0,0,0,1436,1436,0,0,0,0,1436,0,0,0,0,0,0,0,0,0,0,0,0,0,0,0,0,0,0,0,0,0,0,0,0,0,0,0,0,0,0,0,0,0,0,0,0,0,1438,0,1438,0,0,0,0,0,0,0,0,1439,1439,1439,1439,1439,1439,0,0,0,0,0,0,0,1439,0,0,0,0,0,0,1440,1440,0,1440,0,0,1438,1438,0,1440,1440,1440,1440,1440,1440,1440,1440,0,1440,0,1440,1440,1440,0,0,0,0,1438,0,1439,1441,0,1441,1438,0,0,1438,1438,1438,1439,1439,1438,0,0,0,0,1438,0,0,1438,0,1438,0,0,0,1438,0,1438,1443,1443,1443,1439,1439,1438,0,0,0,0,1438,0,0,1438,0,1438,0,0,0,1438,0,1443,1443,1443,1438,1438,0,1438,1438,0,1438,1438,1436,1436,1431,1431,1430,1430,1429,1429,1,1,1438,1438,1438,1444,1444,1438,1444,1444,1444,1431,1438,1438,1438,1445,1445,1438,1445,1445,1445,1430,1438,1438,1438,1446,1446,1438,1446,1446,1446,1429,1438,1438,1438,1447,1447,0,0,0,0,0,1438,0,0,1438,1447,1447,1429,1429,1429,1438,0,0,0,0,0,0,0,1438,0,0,1438,0,0,0,1438,1438,0,1443,1429,1429,1429,1429,1,0,0]
noncomputable def ceA1_16 : List Nat := [1425,1425,1425,0,1425,0,1425,1158,1158,1158,0,1158,0,1426,1426,0,1426,0,1426,1426,1158,1426,1426,1426,0,1426,0,1426,1426,1158,1426,1426,1426,0,1426,0,1426,1426,1158,1426,1426,1428,1,1,1,1,0,1,0,0,0,0,1429,1429,0,0,1429,1157,0,1157,1156,0,0,0,1149,0,0,0,0,1431,1431,1431,1431,1431,1431,0,0,0,1431,1431,1431,0,0,0,0,0,0,0,1432,1432,1432,1432,1432,1432,0,0,0,1432,1432,0,0,0,0,1434,1434,1434,1434,1434,1434,0,0,1434,1434,7,0,0,0,0,7,0,0,0,7,7,0,6,16,16,0,16,5,16,1434,7,0,0,0,0,7,0,0,0,7,7,0,6,1434,16,16,16,0,16,4,16,0,1434,1434,1434,34,34,34,0,34,1,34,1434,1433,1433,0,1433,8,1433,0,0,0,0,0,0,0,0,0,0,0,0,0,0,0,0,0,0,0,0,0,0,0,0,0,0,0,0,0,0,0,1436,0,1436,0,0,0,0,0,0,0,0,1437,1437,1437,1437,1437,1437,0,0,0,0,0,0,0,1437,0,0,0,0,0,0,1438,1438,0,1438,0,0,1436,1436,0,1438,1438,1438,1438,1438,1438,1438,1438,0,1438,0,1438,1438,1438,0,0,0,0,1436,0,1437,1439,0,1439,1436,0,0,1436,1436,1436,1437,1437,1436,0,0,0,0,1436,0,0,1436,0,1436,0,0,0,1436,0,1436,1441,1441,1441,1437,1437,1436,0,0,0,0,1436,0,0,1436,0,1436,0,0,0,1436,0,1441,1441,1441,1436,1436,0,1436,1436,0,1436,1436,1434,1434,1432,1432,1431,1431,1430,1430,1429,1429,1,1,1436,1436,1436,1442,1442,1436,1442,1442,1442,1432,1436,1436,1436,1443,1443,1436,1443,1443,1443,1431,1436,1436,1436,1444,1444,1436,1444,1444,1444,1430,1436,1436,1436,1445,1445,1436,1445,1445,1445,1429,1436,1436,1436,1446,1446,0,0,0,0,0,1436,0,0,1436,1446,1446,1429,1429,1429,1436,0,0,0,0,0,0,0,1436,0,0,1436,0,0,0,1436,1436,0,1441,1429,1429,1429,1429,1,0,0]
noncomputable def ceA1_17 : List Nat := [1425,1425,1425,0,1425,0,1425,1167,1167,1167,0,1167,0,1426,1426,0,1426,0,1426,1426,1167,1426,1426,1426,0,1426,0,1426,1426,1167,1426,1426,1426,0,1426,0,1426,1426,1167,1426,1426,1428,1,1,1,1,0,1,0,0,0,0,1429,1429,0,0,1429,1166,0,1166,1165,0,0,0,1149,0,0,0,0,1431,1431,1431,1431,1431,1431,0,0,0,1431,1431,1431,0,0,0,0,0,0,0,1432,1432,1432,1432,1432,1432,0,0,0,1432,1432,0,0,0,0,1434,1434,1434,1434,1434,1434,0,0,1434,1434,7,0,0,0,0,7,0,0,0,7,7,0,6,16,16,0,16,5,16,1434,7,0,0,0,0,7,0,0,0,7,7,0,6,1434,16,16,16,0,16,4,16,0,1434,1434,1434,60,60,60,0,60,1,60,1434,1433,1433,0,1433,8,1433,0,0,0,0,0,0,0,0,0,0,0,0,0,0,0,0,0,0,0,0,0,0,0,0,0,0,0,0,0,0,0,1436,0,1436,0,0,0,0,0,0,0,0,1437,1437,1437,1437,1437,1437,0,0,0,0,0,0,0,1437,0,0,0,0,0,0,1438,1438,0,1438,0,0,1436,1436,0,1438,1438,1438,1438,1438,1438,1438,1438,0,1438,0,1438,1438,1438,0,0,0,0,1436,0,1437,1439,0,1439,1436,0,0,1436,1436,1436,1437,1437,1436,0,0,0,0,1436,0,0,1436,0,1436,0,0,0,1436,0,1436,1441,1441,1441,1437,1437,1436,0,0,0,0,1436,0,0,1436,0,1436,0,0,0,1436,0,1441,1441,1441,1436,1436,0,1436,1436,0,1436,1436,1434,1434,1432,1432,1431,1431,1430,1430,1429,1429,1,1,1436,1436,1436,1442,1442,1436,1442,1442,1442,1432,1436,1436,1436,1443,1443,1436,1443,1443,1443,1431,1436,1436,1436,1444,1444,1436,1444,1444,1444,1430,1436,1436,1436,1445,1445,1436,1445,1445,1445,1429,1436,1436,1436,1446,1446,0,0,0,0,0,1436,0,0,1436,1446,1446,1429,1429,1429,1436,0,0,0,0,0,0,0,1436,0,0,1436,0,0,0,1436,1436,0,1441,1429,1429,1429,1429,1,0,0]
noncomputable def ceA1_18 : List Nat := [1425,1425,1425,0,1425,0,1425,1176,1176,1176,0,1176,0,1426,1426,0,1426,0,1426,1426,1176,1426,1426,1426,0,1426,0,1426,1426,1176,1426,1426,1426,0,1426,0,1426,1426,1176,1426,1426,1428,1,1,1,1,0,1,0,0,0,0,1429,1429,0,0,1429,1175,0,1175,1174,0,0,0,1149,0,0,0,0,1431,1431,1431,1431,1431,1431,0,0,0,1431,1431,1431,0,0,0,0,0,0,0,1432,1432,1432,1432,1432,1432,0,0,0,1432,1432,0,0,0,0,1434,1434,1434,1434,1434,1434,0,0,1434,1434,7,0,0,0,0,7,0,0,0,7,7,0,6,16,16,0,16,0,0,0,16,0,0,0,0,0,0,0,0,0,0,0,0,0,0,0,0,0,0,0,0,0,0,0,0,0,0,0,0,0,0,0,1436,0,1436,0,0,0,0,0,0,0,0,1437,1437,1437,1437,1437,1437,0,0,0,0,0,0,0,1437,0,0,0,0,0,0,1438,1438,0,1438,0,0,1436,1436,0,1438,1438,1438,1438,1438,1438,1438,1438,0,1438,0,1438,1438,1438,0,0,0,0,1436,0,1437,1439,0,1439,1436,0,0,1436,1436,1436,1437,1437,1436,0,0,0,0,1436,0,0,1436,0,1436,0,0,0,1436,0,1436,1441,1441,1441,1437,1437,1436,0,0,0,0,1436,0,0,1436,0,1436,0,0,0,1436,0,1441,1441,1441,1436,1436,0,1436,1436,0,1436,1436,1434,1434,1432,1432,1431,1431,1430,1430,1429,1429,1,1,1436,1436,1436,1442,1442,1436,1442,1442,1442,1432,1436,1436,1436,1443,1443,1436,1443,1443,1443,1431,1436,1436,1436,1444,1444,1436,1444,1444,1444,1430,1436,1436,1436,1445,1445,1436,1445,1445,1445,1429,1436,1436,1436,1446,1446,0,0,0,0,0,1436,0,0,1436,1446,1446,1429,1429,1429,1436,0,0,0,0,0,0,0,1436,0,0,1436,0,0,0,1436,1436,0,1441,1429,1429,1429,1429,1,0,0]
noncomputable def ceA1_19 : List Nat := [1425,1425,1425,0,1425,0,1425,1185,1185,1185,0,1185,0,1426,1426,0,1426,0,1426,1426,1185,1426,1426,1426,0,1426,0,1426,1426,1185,1426,1426,1426,0,1426,0,1426,1426,1185,1426,1426,1428,1,1,1,1,0,1,0,0,0,0,1429,1429,0,0,1429,1184,0,1184,1183,0,0,0,1149,0,0,0,0,1431,1431,1431,1431,0,0,0,1431,1431,0,0,0,0,1432,1432,1432,1432,0,0,0,1432,1432,0,0,0,0,1434,1434,1434,1434,1434,1434,0,0,1434,1434,7,0,0,0,0,7,0,0,0,7,7,0,6,16,16,0,16,5,16,1434,7,0,0,0,0,7,0,0,0,7,7,0,6,1434,16,16,16,0,16,4,16,0,1434,1434,1434,47,47,47,0,47,1,47,1434,1433,1433,0,1433,8,1433,0,0,0,0,0,0,0,0,0,0,0,0,0,0,0,0,0,0,0,0,0,0,0,0,0,0,0,0,0,0,0,1436,0,1436,0,0,0,0,0,0,0,0,1437,1437,1437,1437,1437,1437,0,0,0,0,0,0,0,1437,0,0,0,0,0,0,1438,1438,0,1438,0,0,1436,1436,0,1438,1438,1438,1438,1438,1438,1438,1438,0,1438,0,1438,1438,1438,0,0,0,0,1436,0,1437,1439,0,1439,1436,0,0,1436,1436,1436,1437,1437,1436,0,0,0,0,1436,0,0,1436,0,1436,0,0,0,1436,0,1436,1441,1441,1441,1437,1437,1436,0,0,0,0,1436,0,0,1436,0,1436,0,0,0,1436,0,1441,1441,1441,1436,1436,0,1436,1436,0,1436,1436,1434,1434,1432,1432,1431,1431,1430,1430,1429,1429,1,1,1436,1436,1436,1442,1442,1436,1442,1442,1442,1432,1436,1436,1436,1443,1443,1436,1443,1443,1443,1431,1436,1436,1436,1444,1444,1436,1444,1444,1444,1430,1436,1436,1436,1445,1445,1436,1445,1445,1445,1429,1436,1436,1436,1446,1446,0,0,0,0,0,1436,0,0,1436,1446,1446,1429,1429,1429,1436,0,0,0,0,0,0,0,1436,0,0,1436,0,0,0,1436,1436,0,1441,1429,1429,1429,1429,1,0,0]
noncomputable def ceA1_20 : List Nat := [1425,1425,1425,0,1425,0,1425,1194,1194,1194,0,1194,0,1426,1426,0,1426,0,1426,1426,1194,1426,1426,1426,0,1426,0,1426,1426,1194,1426,1426,1426,0,1426,0,1426,1426,1194,1426,1426,1428,1,1,1,1,0,1,0,0,0,0,1429,1429,0,0,1429,1193,0,1193,1192,0,0,0,1149,0,0,0,0,1431,1431,1431,1431,0,0,0,1431,1431,0,0,0,0,1433,1433,1433,1433,1433,1433,0,0,1433,1433,7,0,0,0,0,7,0,0,0,7,7,0,6,16,16,0,16,5,16,1433,7,0,0,0,0,7,0,0,0,7,7,0,6,1433,16,16,16,0,16,4,16,0,1433,1433,1433,60,60,60,0,60,1,60,1433,1432,1432,0,1432,8,1432,0,0,0,0,0,0,0,0,0,0,0,0,0,0,0,0,0,0,0,0,0,0,0,0,0,0,0,0,0,0,0,1435,0,1435,0,0,0,0,0,0,0,0,1436,1436,1436,1436,1436,1436,0,0,0,0,0,0,0,1436,0,0,0,0,0,0,1437,1437,0,1437,0,0,1435,1435,0,1437,1437,1437,1437,1437,1437,1437,1437,0,1437,0,1437,1437,1437,0,0,0,0,1435,0,1436,1438,0,1438,1435,0,0,1435,1435,1435,1436,1436,1435,0,0,0,0,1435,0,0,1435,0,1435,0,0,0,1435,0,1435,1440,1440,1440,1436,1436,1435,0,0,0,0,1435,0,0,1435,0,1435,0,0,0,1435,0,1440,1440,1440,1435,1435,0,1435,1435,0,1435,1435,1433,1433,1431,1431,1430,1430,1429,1429,1,1,1435,1435,1435,1441,1441,1435,1441,1441,1441,1431,1435,1435,1435,1442,1442,1435,1442,1442,1442,1430,1435,1435,1435,1443,1443,1435,1443,1443,1443,1429,1435,1435,1435,1444,1444,0,0,0,0,0,1435,0,0,1435,1444,1444,1429,1429,1429,1435,0,0,0,0,0,0,0,1435,0,0,1435,0,0,0,1435,1435,0,1440,1429,1429,1429,1429,1,0,0]
noncomputable def ceA1_21 : List Nat := [1425,1425,1425,0,1425,0,1425,1203,1203,1203,0,1203,0,1426,1426,0,1426,0,1426,1426,1203,1426,1426,1426,0,1426,0,1426,1426,1203,1426,1426,1426,0,1426,0,1426,1426,1203,1426,1426,1428,1,1,1,1,0,1,0,0,0,0,1429,1429,0,0,1429,1202,0,1202,1201,0,0,0,1149,0,0,0,0,1431,1431,1431,1431,1431,1431,0,0,0,1431,1431,0,0,0,0,1432,1432,1432,1432,0,0,0,1432,1432,0,0,0,0,1434,1434,1434,1434,1434,1434,0,0,1434,1434,7,0,0,0,0,7,0,0,0,7,7,0,6,16,16,0,16,5,16,1434,7,0,0,0,0,7,0,0,0,7,7,0,6,1434,16,16,16,0,16,4,16,0,1434,1434,1434,34,34,34,0,34,1,34,1434,1433,1433,0,1433,8,1433,1434,1432,1432,1432,7,0,0,0,0,7,0,0,0,7,7,0,6,1432,34,34,34,0,34,1,34,21,21,21,0,21,1,21,0,1432,34,34,34,0,34,1,34,0,0,1435,1435,1435,1435,1431,1431,1431,0,0,1431,0,0,0,0,0,0,0,0,0,0,0,0,0,0,0,0,0,0,0,0,0,0,0,0,0,0,0,0,0,0,0,0,0,0,0,0,0,1437,0,1437,0,0,0,0,0,0,0,0,1438,1438,1438,1438,1438,1438,0,0,0,0,0,0,0,1438,0,0,0,0,0,0,1439,1439,0,1439,0,0,1437,1437,0,1439,1439,1439,1439,1439,1439,1439,1439,0,1439,0,1439,1439,1439,0,0,0,0,1437,0,1438,1440,0,1440,1437,0,0,1437,1437,1437,1438,1438,1437,0,0,0,0,1437,0,0,1437,0,1437,0,0,0,1437,0,1437,1442,1442,1442,1438,1438,1437,0,0,0,0,1437,0,0,1437,0,1437,0,0,0,1437,0,1442,1442,1442,1437,1437,0,1437,1437,0,1437,1437,1431,1431,1430,1430,1429,1429,1,1,1437,1437,1437,1443,1443,1437,1443,1443,1443,1430,1437,1437,1437,1444,1444,1437,1444,1444,1444,1429,1437,1437,1437,1445,1445,0,0,0,0,0,1437,0,0,1437,1445,1445,1429,1429,1429,1437,0,0,0,0,0,0,0,1437,0,0,1437,0,0,0,1437,1437,0,1442,1429,1429,1429,1429,1,0,0]
noncomputable def ceA1_22 : List Nat := [1425,1425,1425,0,1425,0,1425,1212,1212,1212,0,1212,0,1426,1426,0,1426,0,1426,1426,1212,1426,1426,1426,0,1426,0,1426,1426,1212,1426,1426,1426,0,1426,0,1426,1426,1212,1426,1426,1428,1,1,1,1,0,1,0,0,0,0,1429,1429,0,0,1429,1211,0,1211,1210,0,0,0,1149,0,0,0,0,1431,1431,1431,1431,0,0,0,1431,1431,0,0,0,0,1433,1433,1433,1433,1433,1433,0,0,1433,1433,7,0,0,0,0,7,0,0,0,7,7,0,6,16,16,0,16,5,16,1433,7,0,0,0,0,7,0,0,0,7,7,0,6,1433,16,16,16,0,16,4,16,0,1433,1433,1433,47,47,47,0,47,1,47,1433,1432,1432,0,1432,8,1432,0,0,0,0,0,0,0,0,0,0,0,0,0,0,0,0,0,0,0,0,0,0,0,0,0,0,0,0,0,0,0,1435,0,1435,0,0,0,0,0,0,0,0,1436,1436,1436,1436,1436,1436,0,0,0,0,0,0,0,1436,0,0,0,0,0,0,1437,1437,0,1437,0,0,1435,1435,0,1437,1437,1437,1437,1437,1437,1437,1437,0,1437,0,1437,1437,1437,0,0,0,0,1435,0,1436,1438,0,1438,1435,0,0,1435,1435,1435,1436,1436,1435,0,0,0,0,1435,0,0,1435,0,1435,0,0,0,1435,0,1435,1440,1440,1440,1436,1436,1435,0,0,0,0,1435,0,0,1435,0,1435,0,0,0,1435,0,1440,1440,1440,1435,1435,0,1435,1435,0,1435,1435,1433,1433,1431,1431,1430,1430,1429,1429,1,1,1435,1435,1435,1441,1441,1435,1441,1441,1441,1431,1435,1435,1435,1442,1442,1435,1442,1442,1442,1430,1435,1435,1435,1443,1443,1435,1443,1443,1443,1429,1435,1435,1435,1444,1444,0,0,0,0,0,1435,0,0,1435,1444,1444,1429,1429,1429,1435,0,0,0,0,0,0,0,1435,0,0,1435,0,0,0,1435,1435,0,1440,1429,1429,1429,1429,1,0,0]
noncomputable def ceA1_23 : List Nat := [1425,1425,1425,0,1425,0,1425,1221,1221,1221,0,1221,0,1426,1426,0,1426,0,1426,1426,1221,1426,1426,1426,0,1426,0,1426,1426,1221,1426,1426,1426,0,1426,0,1426,1426,1221,1426,1426,1428,1,1,1,1,0,1,0,0,0,0,1429,1429,0,0,1429,1220,0,1220,1219,0,0,0,1149,0,0,0,0,1431,1431,1431,1431,0,0,0,1431,1431,0,0,0,0,1433,1433,1433,1433,1433,1433,0,0,1433,1433,7,0,0,0,0,7,0,0,0,7,7,0,6,16,16,0,16,0,0,0,16,0,0,0,0,0,0,0,0,0,0,0,0,0,0,0,0,0,0,0,0,0,0,0,0,0,0,0,0,0,0,0,1435,0,1435,0,0,0,0,0,0,0,0,1436,1436,1436,1436,1436,1436,0,0,0,0,0,0,0,1436,0,0,0,0,0,0,1437,1437,0,1437,0,0,1435,1435,0,1437,1437,1437,1437,1437,1437,1437,1437,0,1437,0,1437,1437,1437,0,0,0,0,1435,0,1436,1438,0,1438,1435,0,0,1435,1435,1435,1436,1436,1435,0,0,0,0,1435,0,0,1435,0,1435,0,0,0,1435,0,1435,1440,1440,1440,1436,1436,1435,0,0,0,0,1435,0,0,1435,0,1435,0,0,0,1435,0,1440,1440,1440,1435,1435,0,1435,1435,0,1435,1435,1433,1433,1431,1431,1430,1430,1429,1429,1,1,1435,1435,1435,1441,1441,1435,1441,1441,1441,1431,1435,1435,1435,1442,1442,1435,1442,1442,1442,1430,1435,1435,1435,1443,1443,1435,1443,1443,1443,1429,1435,1435,1435,1444,1444,0,0,0,0,0,1435,0,0,1435,1444,1444,1429,1429,1429,1435,0,0,0,0,0,0,0,1435,0,0,1435,0,0,0,1435,1435,0,1440,1429,1429,1429,1429,1,0,0]
noncomputable def ceA1_24 : List Nat := [1425,1425,1425,0,1425,0,1425,1230,1230,1230,0,1230,0,1426,1426,0,1426,0,1426,1426,1230,1426,1426,1426,0,1426,0,1426,1426,1230,1426,1426,1426,0,1426,0,1426,1426,1230,1426,1426,1428,1,1,1,1,0,1,0,0,0,0,1429,1429,0,0,1429,1229,0,1229,1228,0,0,0,1149,0,0,0,0,1431,1431,1431,1431,0,0,0,1431,1431,0,0,0,0,1433,1433,1433,1433,1433,1433,0,0,1433,1433,7,0,0,0,0,7,0,0,0,7,7,0,6,16,16,0,16,0,0,0,16,0,0,0,0,0,0,0,0,0,0,0,0,0,0,0,0,0,0,0,0,0,0,0,0,0,0,0,0,0,0,0,1435,0,1435,0,0,0,0,0,0,0,0,1436,1436,1436,1436,1436,1436,0,0,0,0,0,0,0,1436,0,0,0,0,0,0,1437,1437,0,1437,0,0,1435,1435,0,1437,1437,1437,1437,1437,1437,1437,1437,0,1437,0,1437,1437,1437,0,0,0,0,1435,0,1436,1438,0,1438,1435,0,0,1435,1435,1435,1436,1436,1435,0,0,0,0,1435,0,0,1435,0,1435,0,0,0,1435,0,1435,1440,1440,1440,1436,1436,1435,0,0,0,0,1435,0,0,1435,0,1435,0,0,0,1435,0,1440,1440,1440,1435,1435,0,1435,1435,0,1435,1435,1433,1433,1431,1431,1430,1430,1429,1429,1,1,1435,1435,1435,1441,1441,1435,1441,1441,1441,1431,1435,1435,1435,1442,1442,1435,1442,1442,1442,1430,1435,1435,1435,1443,1443,1435,1443,1443,1443,1429,1435,1435,1435,1444,1444,0,0,0,0,0,1435,0,0,1435,1444,1444,1429,1429,1429,1435,0,0,0,0,0,0,0,1435,0,0,1435,0,0,0,1435,1435,0,1440,1429,1429,1429,1429,1,0,0]
noncomputable def ceA1_25 : List Nat := [1425,1425,1425,0,1425,0,1425,1239,1239,1239,0,1239,0,1426,1426,0,1426,0,1426,1426,1239,1426,1426,1426,0,1426,0,1426,1426,1239,1426,1426,1426,0,1426,0,1426,1426,1239,1426,1426,1428,1,1,1,1,0,1,0,0,0,0,1429,1429,0,0,1429,1238,0,1238,1237,0,0,0,1149,0,0,0,0,1432,1432,1433,1433,0,0,1433,1432,7,0,0,0,0,7,0,0,0,7,7,0,6,21,21,0,21,0,0,0,21,0,0,0,0,0,0,0,0,0,0,0,0,0,0,0,0,0,0,0,0,0,0,0,0,0,0,0,0,0,0,0,1435,0,1435,0,0,0,0,0,0,0,0,1436,1436,1436,1436,1436,1436,0,0,0,0,0,0,0,1436,0,0,0,0,0,0,1437,1437,0,1437,0,0,1435,1435,0,1437,1437,1437,1437,1437,1437,1437,1437,0,1437,0,1437,1437,1437,0,0,0,0,1435,0,1436,1438,0,1438,1435,0,0,1435,1435,1435,1436,1436,1435,0,0,0,0,1435,0,0,1435,0,1435,0,0,0,1435,0,1435,1440,1440,1440,1436,1436,1435,0,0,0,0,1435,0,0,1435,0,1435,0,0,0,1435,0,1440,1440,1440,1435,1435,0,1435,1435,0,1435,1435,1431,1431,1430,1430,1429,1429,1,1,1435,1435,1435,1441,1441,1435,1441,1441,1441,1430,1435,1435,1435,1442,1442,1435,1442,1442,1442,1429,1435,1435,1435,1443,1443,0,0,0,0,0,1435,0,0,1435,1443,1443,1429,1429,1429,1435,0,0,0,0,0,0,0,1435,0,0,1435,0,0,0,1435,1435,0,1440,1429,1429,1429,1429,1,0,0]
noncomputable def ceA1_26 : List Nat := [1425,1425,1425,0,1425,0,1425,1248,1248,1248,0,1248,0,1426,1426,0,1426,0,1426,1426,1248,1426,1426,1426,0,1426,0,1426,1426,1248,1426,1426,1426,0,1426,0,1426,1426,1248,1426,1426,1428,1,1,1,1,0,1,0,0,0,0,1429,1429,0,0,1429,1247,0,1247,1246,0,0,0,1149,0,0,0,0,1432,1432,1433,1433,0,0,1433,1432,7,0,0,0,0,7,0,0,0,7,7,0,6,21,21,0,21,2,21,1432,7,0,0,0,0,7,0,0,0,7,7,0,6,16,16,0,16,0,16,16,16,1434,4,12,1434,0,1434,0,1434,0,1434,1434,16,16,1434,1434,1434,1434,1434,1436,1436,1432,7,0,0,0,0,7,0,0,0,7,7,0,6,1436,16,16,16,0,16,4,16,0,34,34,34,0,34,1,34,0,1433,0,0,0,1434,0,1434,0,1434,1434,16,16,1434,1434,1434,1434,1434,1436,1436,1432,7,0,0,0,0,7,0,0,0,7,7,0,6,1436,16,16,16,0,16,4,16,0,47,47,47,0,47,1,47,0,1433,0,0,0,1434,0,1434,0,1434,1434,16,16,1434,1434,1434,1434,1434,1436,1436,1432,7,0,0,0,0,7,0,0,0,7,7,0,6,1436,16,16,16,0,16,4,16,0,60,60,60,0,60,1,60,0,1433,0,0,1436,0,1435,0,1435,1435,1435,0,1434,0,1434,0,1434,1434,16,16,1434,1434,1434,1438,1436,1436,1436,1435,1439,1435,0,1435,11,1435,1439,0,0,0,0,0,0,0,0,0,0,0,0,0,0,0,0,0,0,0,0,0,0,0,0,0,0,0,0,0,0,0,1441,0,1441,0,0,0,0,0,0,0,0,1442,1442,1442,1442,1442,1442,0,0,0,0,0,0,0,1442,0,0,0,0,0,0,1443,1443,0,1443,0,0,1441,1441,0,1443,1443,1443,1443,1443,1443,1443,1443,0,1443,0,1443,1443,1443,0,0,0,0,1441,0,1442,1444,0,1444,1441,0,0,1441,1441,1441,1442,1442,1441,0,0,0,0,1441,0,0,1441,0,1441,0,0,0,1441,0,1441,1446,1446,1446,1442,1442,1441,0,0,0,0,1441,0,0,1441,0,1441,0,0,0,1441,0,1446,1446,1446,1441,1441,0,1441,1441,0,1441,1441,1431,1431,1430,1430,1429,1429,1,1,1441,1441,1441,1447,1447,1441,1447,1447,1447,1430,1441,1441,1441,1448,1448,1441,1448,1448,1448,1429,1441,1441,1441,1449,1449,0,0,0,0,0,1441,0,0,1441,1449,1449,1429,1429,1429,1441,0,0,0,0,0,0,0,1441,0,0,1441,0,0,0,1441,1441,0,1446,1429,1429,1429,1429,1,0,0]
noncomputable def ceA1_27 : List Nat := [1425,1425,1425,0,1425,0,1425,1257,1257,1257,0,1257,0,1426,1426,0,1426,0,1426,1426,1257,1426,1426,1426,0,1426,0,1426,1426,1257,1426,1426,1426,0,1426,0,1426,1426,1257,1426,1426,1428,1,1,1,1,0,1,0,0,0,0,1429,1429,0,0,1429,1256,0,1256,1255,0,0,0,1149,0,0,0,0,1432,1432,1433,1433,1431,1431,0,0,1433,1432,7,0,0,0,0,7,0,0,0,7,7,0,6,21,21,0,21,2,21,1432,7,0,0,0,0,7,0,0,0,7,7,0,6,16,16,0,16,0,16,16,16,1434,4,12,1434,0,1434,0,1434,0,1434,1434,16,16,1434,1434,1434,1434,1434,1436,1436,1432,7,0,0,0,0,7,0,0,0,7,7,0,6,1436,16,16,16,0,16,4,16,0,34,34,34,0,34,1,34,0,1433,0,0,1436,0,1435,0,1435,1435,1435,0,1434,0,1434,0,1434,1434,16,16,1434,1434,1434,1434,1434,1436,1436,1432,7,0,0,0,0,7,0,0,0,7,7,0,6,1436,16,16,16,0,16,4,16,0,47,47,47,0,47,1,47,0,1433,0,0,0,1434,0,1434,0,1434,1434,16,16,1434,1434,1434,1434,1434,1436,1436,1432,7,0,0,0,0,7,0,0,0,7,7,0,6,1436,16,16,16,0,16,4,16,0,60,60,60,0,60,1,60,0,1433,0,0,0,1434,0,1434,0,1434,1434,16,16,1434,1434,1434,1438,1436,1436,1436,1435,1439,1435,0,1435,11,1435,1439,0,0,0,0,0,0,0,0,0,0,0,0,0,0,0,0,0,0,0,0,0,0,0,0,0,0,0,0,0,0,0,1441,0,1441,0,0,0,0,0,0,0,0,1442,1442,1442,1442,1442,1442,0,0,0,0,0,0,0,1442,0,0,0,0,0,0,1443,1443,0,1443,0,0,1441,1441,0,1443,1443,1443,1443,1443,1443,1443,1443,0,1443,0,1443,1443,1443,0,0,0,0,1441,0,1442,1444,0,1444,1441,0,0,1441,1441,1441,1442,1442,1441,0,0,0,0,1441,0,0,1441,0,1441,0,0,0,1441,0,1441,1446,1446,1446,1442,1442,1441,0,0,0,0,1441,0,0,1441,0,1441,0,0,0,1441,0,1446,1446,1446,1441,1441,0,1441,1441,0,1441,1441,1431,1431,1430,1430,1429,1429,1,1,1441,1441,1441,1447,1447,1441,1447,1447,1447,1430,1441,1441,1441,1448,1448,1441,1448,1448,1448,1429,1441,1441,1441,1449,1449,0,0,0,0,0,1441,0,0,1441,1449,1449,1429,1429,1429,1441,0,0,0,0,0,0,0,1441,0,0,1441,0,0,0,1441,1441,0,1446,1429,1429,1429,1429,1,0,0]
noncomputable def ceA1_28 : List Nat := [1425,1425,1425,0,1425,0,1425,1266,1266,1266,0,1266,0,1426,1426,0,1426,0,1426,1426,1266,1426,1426,1426,0,1426,0,1426,1426,1266,1426,1426,1426,0,1426,0,1426,1426,1266,1426,1426,1428,1,1,1,1,0,1,0,0,0,0,1429,1429,0,0,1429,1265,0,1265,1264,0,0,0,1149,0,0,0,0,1432,1432,1433,1433,1431,1431,0,0,1433,1432,7,0,0,0,0,7,0,0,0,7,7,0,6,21,21,0,21,0,0,0,21,0,0,0,0,0,0,0,0,0,0,0,0,0,0,0,0,0,0,0,0,0,0,0,0,0,0,0,0,0,0,0,1435,0,1435,0,0,0,0,0,0,0,0,1436,1436,1436,1436,1436,1436,0,0,0,0,0,0,0,1436,0,0,0,0,0,0,1437,1437,0,1437,0,0,1435,1435,0,1437,1437,1437,1437,1437,1437,1437,1437,0,1437,0,1437,1437,1437,0,0,0,0,1435,0,1436,1438,0,1438,1435,0,0,1435,1435,1435,1436,1436,1435,0,0,0,0,1435,0,0,1435,0,1435,0,0,0,1435,0,1435,1440,1440,1440,1436,1436,1435,0,0,0,0,1435,0,0,1435,0,1435,0,0,0,1435,0,1440,1440,1440,1435,1435,0,1435,1435,0,1435,1435,1431,1431,1430,1430,1429,1429,1,1,1435,1435,1435,1441,1441,1435,1441,1441,1441,1430,1435,1435,1435,1442,1442,1435,1442,1442,1442,1429,1435,1435,1435,1443,1443,0,0,0,0,0,1435,0,0,1435,1443,1443,1429,1429,1429,1435,0,0,0,0,0,0,0,1435,0,0,1435,0,0,0,1435,1435,0,1440,1429,1429,1429,1429,1,0,0]
noncomputable def ceA1_29 : List Nat := [1425,1425,1425,0,1425,0,1425,1275,1275,1275,0,1275,0,1426,1426,0,1426,0,1426,1426,1275,1426,1426,1426,0,1426,0,1426,1426,1275,1426,1426,1426,0,1426,0,1426,1426,1275,1426,1426,1428,1,1,1,1,0,1,0,0,0,0,1429,1429,0,0,1429,1274,0,1274,1273,0,0,0,1149,0,0,0,0,1432,1432,1433,1433,1431,1431,0,0,1433,1432,7,0,0,0,0,7,0,0,0,7,7,0,6,21,21,0,21,2,21,1432,7,0,0,0,0,7,0,0,0,7,7,0,6,16,16,0,16,0,16,16,16,1434,4,12,1434,0,1434,0,1434,0,1434,1434,16,16,1434,1434,1434,1434,1434,1436,1436,1432,7,0,0,0,0,7,0,0,0,7,7,0,6,1436,16,16,16,0,16,4,16,0,34,34,34,0,34,1,34,0,1433,0,0,0,1434,0,1434,0,1434,1434,16,16,1434,1434,1434,1434,1434,1436,1436,1432,7,0,0,0,0,7,0,0,0,7,7,0,6,1436,16,16,16,0,16,4,16,0,47,47,47,0,47,1,47,0,1433,0,0,0,1434,0,1434,0,1434,1434,16,16,1434,1434,1434,1434,1434,1436,1436,1432,7,0,0,0,0,7,0,0,0,7,7,0,6,1436,16,16,16,0,16,4,16,0,60,60,60,0,60,1,60,0,1433,0,0,0,1434,0,1434,0,1434,1434,16,16,1434,1434,1434,1438,1436,1436,1436,1435,1439,1435,0,1435,11,1435,1439,0,1431,0,0,0,0,1440,1440,0,0,0,0,1440,0,0,0,0,0,0,0,0,0,1440,0,0,1441,4,12,1441,0,1441,0,1441,0,1441,1441,1441,1441,1443,1443,0,0,1443,0,0,0,0,0,0,1443,0,0,0,0,0,1441,0,1441,0,1441,1441,1441,1441,1443,1443,0,0,1443,0,0,0,0,0,0,1443,0,0,0,0,0,1441,0,1441,0,1441,1441,1441,1441,1445,1443,1443,1443,1442,1446,1442,0,1442,11,1442,1446,1440,1432,7,0,0,0,0,7,0,0,0,7,7,0,6,21,21,0,21,2,21,0,0,0,0,0,0,0,0,0,0,0,0,0,0,0,0,0,0,0,0,0,0,0,0,0,0,0,0,0,0,0,1448,0,1448,0,0,0,0,0,0,0,0,1449,1449,1449,1449,1449,1449,0,0,0,0,0,0,0,1449,0,0,0,0,0,0,1450,1450,0,1450,0,0,1448,1448,0,1450,1450,1450,1450,1450,1450,1450,1450,0,1450,0,1450,1450,1450,0,0,0,0,1448,0,1449,1451,0,1451,1448,0,0,1448,1448,1448,1449,1449,1448,0,0,0,0,1448,0,0,1448,0,1448,0,0,0,1448,0,1448,1453,1453,1453,1449,1449,1448,0,0,0,0,1448,0,0,1448,0,1448,0,0,0,1448,0,1453,1453,1453,1448,1448,0,1448,1448,0,1448,1448,1431,1431,1430,1430,1429,1429,1,1,1448,1448,1448,1454,1454,1448,1454,1454,1454,1430,1448,1448,1448,1455,1455,1448,1455,1455,1455,1429,1448,1448,1448,1456,1456,0,0,0,0,0,1448,0,0,1448,1456,1456,1429,1429,1429,1448,0,0,0,0,0,0,0,1448,0,0,1448,0,0,0,1448,1448,0,1453,1429,1429,1429,1429,1,0,0]
noncomputable def ceA1_30 : List Nat := [1425,1425,1425,0,1425,0,1425,1284,1284,1284,0,1284,0,1426,1426,0,1426,0,1426,1426,1284,1426,1426,1426,0,1426,0,1426,1426,1284,1426,1426,1426,0,1426,0,1426,1426,1284,1426,1426,1428,1,1,1,1,0,1,0,0,0,0,1429,1429,0,0,1429,1283,0,1283,1282,0,0,0,1149,0,0,0,0,1432,1432,1433,1433,1431,1431,0,0,1433,1432,7,0,0,0,0,7,0,0,0,7,7,0,6,21,21,0,21,2,21,1432,7,0,0,0,0,7,0,0,0,7,7,0,6,16,16,0,16,0,16,16,16,1434,4,12,1434,0,1434,0,1434,0,1434,1434,16,16,1434,1434,1434,1434,1434,1436,1436,1432,7,0,0,0,0,7,0,0,0,7,7,0,6,1436,16,16,16,0,16,4,16,0,34,34,34,0,34,1,34,0,1433,0,0,0,1434,0,1434,0,1434,1434,16,16,1434,1434,1434,1434,1434,1436,1436,1432,7,0,0,0,0,7,0,0,0,7,7,0,6,1436,16,16,16,0,16,4,16,0,47,47,47,0,47,1,47,0,1433,0,0,0,1434,0,1434,0,1434,1434,16,16,1434,1434,1434,1434,1434,1436,1436,1432,7,0,0,0,0,7,0,0,0,7,7,0,6,1436,16,16,16,0,16,4,16,0,60,60,60,0,60,1,60,0,1433,0,0,0,1434,0,1434,0,1434,1434,16,16,1434,1434,1434,1438,1436,1436,1436,1435,1439,1435,0,1435,11,1435,1439,0,1431,0,0,0,0,1440,1440,0,0,0,0,1440,0,0,0,0,0,0,0,0,0,1440,0,0,1441,4,12,1441,0,1441,0,1441,0,1441,1441,1441,1441,1443,1443,0,0,1443,0,0,0,0,0,0,1443,0,0,0,0,0,1441,0,1441,0,1441,1441,1441,1441,1443,1443,0,0,1443,0,0,0,0,1443,0,1442,0,1442,1442,1442,0,1441,0,1441,0,1441,1441,1441,1441,1443,1443,0,0,1443,0,0,0,0,0,0,1443,0,0,0,0,0,1441,0,1441,0,1441,1441,1441,1441,1445,1443,1443,1443,1442,1446,1442,0,1442,11,1442,1446,0,0,0,0,0,0,0,0,0,0,0,0,0,0,0,0,0,0,0,0,0,0,0,0,0,0,0,0,0,0,0,1448,0,1448,0,0,0,0,0,0,0,0,1449,1449,1449,1449,1449,1449,0,0,0,0,0,0,0,1449,0,0,0,0,0,0,1450,1450,0,1450,0,0,1448,1448,0,1450,1450,1450,1450,1450,1450,1450,1450,0,1450,0,1450,1450,1450,0,0,0,0,1448,0,1449,1451,0,1451,1448,0,0,1448,1448,1448,1449,1449,1448,0,0,0,0,1448,0,0,1448,0,1448,0,0,0,1448,0,1448,1453,1453,1453,1449,1449,1448,0,0,0,0,1448,0,0,1448,0,1448,0,0,0,1448,0,1453,1453,1453,1448,1448,0,1448,1448,0,1448,1448,1440,1440,1431,1431,1430,1430,1429,1429,1,1,1448,1448,1448,1454,1454,1448,1454,1454,1454,1431,1448,1448,1448,1455,1455,1448,1455,1455,1455,1430,1448,1448,1448,1456,1456,1448,1456,1456,1456,1429,1448,1448,1448,1457,1457,0,0,0,0,0,1448,0,0,1448,1457,1457,1429,1429,1429,1448,0,0,0,0,0,0,0,1448,0,0,1448,0,0,0,1448,1448,0,1453,1429,1429,1429,1429,1,0,0]
noncomputable def ceA1_31 : List Nat := [1425,1425,1425,0,1425,0,1425,1293,1293,1293,0,1293,0,1426,1426,0,1426,0,1426,1426,1293,1426,1426,1426,0,1426,0,1426,1426,1293,1426,1426,1426,0,1426,0,1426,1426,1293,1426,1426,1428,1,1,1,1,0,1,0,0,0,0,1429,1429,0,0,1429,1292,0,1292,1291,0,0,0,1149,0,0,0,0,1432,1432,1433,1433,0,0,1433,1432,7,0,0,0,0,7,0,0,0,7,7,0,6,21,21,0,21,2,21,1432,7,0,0,0,0,7,0,0,0,7,7,0,6,16,16,0,16,0,16,16,16,1434,4,12,1434,0,1434,0,1434,0,1434,1434,16,16,1434,1434,1434,1434,1434,1436,1436,1432,7,0,0,0,0,7,0,0,0,7,7,0,6,1436,16,16,16,0,16,4,16,0,34,34,34,0,34,1,34,0,1433,0,0,0,1434,0,1434,0,1434,1434,16,16,1434,1434,1434,1434,1434,1436,1436,1432,7,0,0,0,0,7,0,0,0,7,7,0,6,1436,16,16,16,0,16,4,16,0,47,47,47,0,47,1,47,0,1433,0,0,1436,0,1435,0,1435,1435,1435,0,1434,0,1434,0,1434,1434,16,16,1434,1434,1434,1434,1434,1436,1436,1432,7,0,0,0,0,7,0,0,0,7,7,0,6,1436,16,16,16,0,16,4,16,0,60,60,60,0,60,1,60,0,1433,0,0,0,1434,0,1434,0,1434,1434,16,16,1434,1434,1434,1438,1436,1436,1436,1435,1439,1435,0,1435,11,1435,1439,0,0,0,0,0,0,0,0,0,0,0,0,0,0,0,0,0,0,0,0,0,0,0,0,0,0,0,0,0,0,0,1441,0,1441,0,0,0,0,0,0,0,0,1442,1442,1442,1442,1442,1442,0,0,0,0,0,0,0,1442,0,0,0,0,0,0,1443,1443,0,1443,0,0,1441,1441,0,1443,1443,1443,1443,1443,1443,1443,1443,0,1443,0,1443,1443,1443,0,0,0,0,1441,0,1442,1444,0,1444,1441,0,0,1441,1441,1441,1442,1442,1441,0,0,0,0,1441,0,0,1441,0,1441,0,0,0,1441,0,1441,1446,1446,1446,1442,1442,1441,0,0,0,0,1441,0,0,1441,0,1441,0,0,0,1441,0,1446,1446,1446,1441,1441,0,1441,1441,0,1441,1441,1431,1431,1430,1430,1429,1429,1,1,1441,1441,1441,1447,1447,1441,1447,1447,1447,1430,1441,1441,1441,1448,1448,1441,1448,1448,1448,1429,1441,1441,1441,1449,1449,0,0,0,0,0,1441,0,0,1441,1449,1449,1429,1429,1429,1441,0,0,0,0,0,0,0,1441,0,0,1441,0,0,0,1441,1441,0,1446,1429,1429,1429,1429,1,0,0]
noncomputable def ceA1_32 : List Nat := [1425,1425,1425,0,1425,0,1425,1302,1302,1302,0,1302,0,1426,1426,0,1426,0,1426,1426,1302,1426,1426,1426,0,1426,0,1426,1426,1302,1426,1426,1426,0,1426,0,1426,1426,1302,1426,1426,1428,1,1,1,1,0,1,0,0,0,0,1429,1429,0,0,1429,1301,0,1301,1300,0,0,0,1149,0,0,0,0,1432,1432,1433,1433,1431,1431,0,0,1433,1432,7,0,0,0,0,7,0,0,0,7,7,0,6,21,21,0,21,2,21,1432,7,0,0,0,0,7,0,0,0,7,7,0,6,16,16,0,16,0,16,16,16,1434,4,12,1434,0,1434,0,1434,0,1434,1434,16,16,1434,1434,1434,1434,1434,1436,1436,1432,7,0,0,0,0,7,0,0,0,7,7,0,6,1436,16,16,16,0,16,4,16,0,34,34,34,0,34,1,34,0,1433,0,0,0,1434,0,1434,0,1434,1434,16,16,1434,1434,1434,1434,1434,1436,1436,1432,7,0,0,0,0,7,0,0,0,7,7,0,6,1436,16,16,16,0,16,4,16,0,47,47,47,0,47,1,47,0,1433,0,0,1436,0,1435,0,1435,1435,1435,0,1434,0,1434,0,1434,1434,16,16,1434,1434,1434,1434,1434,1436,1436,1432,7,0,0,0,0,7,0,0,0,7,7,0,6,1436,16,16,16,0,16,4,16,0,60,60,60,0,60,1,60,0,1433,0,0,0,1434,0,1434,0,1434,1434,16,16,1434,1434,1434,1438,1436,1436,1436,1435,1439,1435,0,1435,11,1435,1439,0,0,0,0,0,0,0,0,0,0,0,0,0,0,0,0,0,0,0,0,0,0,0,0,0,0,0,0,0,0,0,1441,0,1441,0,0,0,0,0,0,0,0,1442,1442,1442,1442,1442,1442,0,0,0,0,0,0,0,1442,0,0,0,0,0,0,1443,1443,0,1443,0,0,1441,1441,0,1443,1443,1443,1443,1443,1443,1443,1443,0,1443,0,1443,1443,1443,0,0,0,0,1441,0,1442,1444,0,1444,1441,0,0,1441,1441,1441,1442,1442,1441,0,0,0,0,1441,0,0,1441,0,1441,0,0,0,1441,0,1441,1446,1446,1446,1442,1442,1441,0,0,0,0,1441,0,0,1441,0,1441,0,0,0,1441,0,1446,1446,1446,1441,1441,0,1441,1441,0,1441,1441,1431,1431,1430,1430,1429,1429,1,1,1441,1441,1441,1447,1447,1441,1447,1447,1447,1430,1441,1441,1441,1448,1448,1441,1448,1448,1448,1429,1441,1441,1441,1449,1449,0,0,0,0,0,1441,0,0,1441,1449,1449,1429,1429,1429,1441,0,0,0,0,0,0,0,1441,0,0,1441,0,0,0,1441,1441,0,1446,1429,1429,1429,1429,1,0,0]
noncomputable def ceA1_33 : List Nat := [1425,1425,1425,0,1425,0,1425,1315,1315,1315,0,1315,0,1426,1426,0,1426,0,1426,1426,1315,1426,1426,1426,0,1426,0,1426,1426,1315,1426,1426,1426,0,1426,0,1426,1426,1315,1426,1426,1428,1,1,1,1,0,1,0,0,0,0,1429,1429,0,0,1429,1314,0,1314,1313,0,0,0,1306,0,0,0,0,1431,1431,1431,1431,1431,1431,0,0,0,1431,1431,0,0,0,0,1433,1433,1433,1433,1433,1433,0,0,1433,1433,7,0,0,0,0,7,0,0,0,7,7,0,6,16,16,0,16,5,16,1433,7,0,0,0,0,7,0,0,0,7,7,0,6,1433,16,16,16,0,16,4,16,0,1433,1433,1433,60,60,60,0,60,1,60,1433,1432,1432,0,1432,8,1432,1433,1431,1431,0,1431,1431,0,0,0,0,1434,1434,1434,1434,0,0,1434,1434,1434,1434,1434,0,0,0,0,0,0,0,0,0,0,0,0,0,0,0,0,0,0,0,0,0,0,0,0,0,0,0,0,0,0,0,0,0,1436,0,1436,0,0,0,0,0,0,0,0,1437,1437,1437,1437,1437,1437,0,0,0,0,0,0,0,1437,0,0,0,0,0,0,1438,1438,0,1438,0,0,1436,1436,0,1438,1438,1438,1438,1438,1438,1438,1438,0,1438,0,1438,1438,1438,0,0,0,0,1436,0,1437,1439,0,1439,1436,0,0,1436,1436,1436,1437,1437,1436,0,0,0,0,1436,0,0,1436,0,1436,0,0,0,1436,0,1436,1441,1441,1441,1437,1437,1436,0,0,0,0,1436,0,0,1436,0,1436,0,0,0,1436,0,1441,1441,1441,1436,1436,0,1436,1436,0,1436,1436,1434,1434,1431,1431,1430,1430,1429,1429,1,1,1436,1436,1436,1442,1442,1436,1442,1442,1442,1431,1436,1436,1436,1443,1443,1436,1443,1443,1443,1430,1436,1436,1436,1444,1444,1436,1444,1444,1444,1429,1436,1436,1436,1445,1445,0,0,0,0,0,1436,0,0,1436,1445,1445,1429,1429,1429,1436,0,0,0,0,0,0,0,1436,0,0,1436,0,0,0,1436,1436,0,1441,1429,1429,1429,1429,1,0,0]
noncomputable def ceA1_34 : List Nat := [1425,1425,1425,0,1425,0,1425,1324,1324,1324,0,1324,0,1426,1426,0,1426,0,1426,1426,1324,1426,1426,1426,0,1426,0,1426,1426,1324,1426,1426,1426,0,1426,0,1426,1426,1324,1426,1426,1428,1,1,1,1,0,1,0,0,0,0,1429,1429,0,0,1429,1323,0,1323,1322,0,0,0,1306,0,0,0,0,0,0,1431,1431,1431,1431,1431,1431,1431,1431,0,0,0,1431,1431,0,0,0,0,1433,1433,1433,1433,1433,1433,0,0,1433,1433,7,0,0,0,0,7,0,0,0,7,7,0,6,16,16,0,16,5,16,1433,7,0,0,0,0,7,0,0,0,7,7,0,6,1433,16,16,16,0,16,4,16,0,1433,1433,1433,60,60,60,0,60,1,60,1433,1432,1432,0,1432,8,1432,1433,1431,1431,0,1431,1431,0,0,0,0,1434,1434,1434,1434,0,0,1434,1434,1434,1434,1434,0,0,0,0,0,0,0,0,0,0,0,0,0,0,0,0,0,0,0,0,0,0,0,0,0,0,0,0,0,0,0,0,0,0,0,1436,0,1436,0,0,0,0,0,0,0,0,1437,1437,1437,1437,1437,1437,0,0,0,0,0,0,0,1437,0,0,0,0,0,0,1438,1438,0,1438,0,0,1436,1436,0,1438,1438,1438,1438,1438,1438,1438,1438,0,1438,0,1438,1438,1438,0,0,0,0,1436,0,1437,1439,0,1439,1436,0,0,1436,1436,1436,1437,1437,1436,0,0,0,0,1436,0,0,1436,0,1436,0,0,0,1436,0,1436,1441,1441,1441,1437,1437,1436,0,0,0,0,1436,0,0,1436,0,1436,0,0,0,1436,0,1441,1441,1441,1436,1436,0,1436,1436,0,1436,1436,1434,1434,1431,1431,1430,1430,1429,1429,1,1,1436,1436,1436,1442,1442,1436,1442,1442,1442,1431,1436,1436,1436,1443,1443,1436,1443,1443,1443,1430,1436,1436,1436,1444,1444,1436,1444,1444,1444,1429,1436,1436,1436,1445,1445,0,0,0,0,0,1436,0,0,1436,1445,1445,1429,1429,1429,1436,0,0,0,0,0,0,0,1436,0,0,1436,0,0,0,1436,1436,0,1441,1429,1429,1429,1429,1,0,0]
noncomputable def ceA1_35 : List Nat := [1425,1425,1425,0,1425,0,1425,1333,1333,1333,0,1333,0,1426,1426,0,1426,0,1426,1426,1333,1426,1426,1426,0,1426,0,1426,1426,1333,1426,1426,1426,0,1426,0,1426,1426,1333,1426,1426,1428,1,1,1,1,0,1,0,0,0,0,1429,1429,0,0,1429,1332,0,1332,1331,0,0,0,1306,0,0,0,0,1431,1431,1431,1431,1431,1431,0,0,0,1431,1431,0,0,0,0,1433,1433,1433,1433,1433,1433,0,0,1433,1433,7,0,0,0,0,7,0,0,0,7,7,0,6,16,16,0,16,5,16,1433,7,0,0,0,0,7,0,0,0,7,7,0,6,1433,16,16,16,0,16,4,16,0,1433,1433,1433,60,60,60,0,60,1,60,1433,1432,1432,0,1432,8,1432,1433,1431,1431,0,1431,1431,0,0,0,0,1434,1434,1434,1434,0,0,1434,1434,1434,1434,1434,0,0,0,0,0,0,0,0,0,0,0,0,0,0,0,0,0,0,0,0,0,0,0,0,0,0,0,0,0,0,0,0,0,0,0,1436,0,1436,0,0,0,0,0,0,0,0,1437,1437,1437,1437,1437,1437,0,0,0,0,0,0,0,1437,0,0,0,0,0,0,1438,1438,0,1438,0,0,1436,1436,0,1438,1438,1438,1438,1438,1438,1438,1438,0,1438,0,1438,1438,1438,0,0,0,0,1436,0,1437,1439,0,1439,1436,0,0,1436,1436,1436,1437,1437,1436,0,0,0,0,1436,0,0,1436,0,1436,0,0,0,1436,0,1436,1441,1441,1441,1437,1437,1436,0,0,0,0,1436,0,0,1436,0,1436,0,0,0,1436,0,1441,1441,1441,1436,1436,0,1436,1436,0,1436,1436,1434,1434,1431,1431,1430,1430,1429,1429,1,1,1436,1436,1436,1442,1442,1436,1442,1442,1442,1431,1436,1436,1436,1443,1443,1436,1443,1443,1443,1430,1436,1436,1436,1444,1444,1436,1444,1444,1444,1429,1436,1436,1436,1445,1445,0,0,0,0,0,1436,0,0,1436,1445,1445,1429,1429,1429,1436,0,0,0,0,0,0,0,1436,0,0,1436,0,0,0,1436,1436,0,1441,1429,1429,1429,1429,1,0,0]
noncomputable def ceA1_36 : List Nat := [1425,1425,1425,0,1425,0,1425,1342,1342,1342,0,1342,0,1426,1426,0,1426,0,1426,1426,1342,1426,1426,1426,0,1426,0,1426,1426,1342,1426,1426,1426,0,1426,0,1426,1426,1342,1426,1426,1428,1,1,1,1,0,1,0,0,0,0,1429,1429,0,0,1429,1341,0,1341,1340,0,0,0,1306,0,0,0,0,1431,1431,1431,1431,1431,1431,1431,1431,0,0,0,1431,1431,0,0,0,0,1433,1433,1433,1433,1433,1433,0,0,1433,1433,7,0,0,0,0,7,0,0,0,7,7,0,6,16,16,0,16,5,16,1433,7,0,0,0,0,7,0,0,0,7,7,0,6,1433,16,16,16,0,16,4,16,0,1433,1433,1433,60,60,60,0,60,1,60,1433,1432,1432,0,1432,8,1432,1433,1431,1431,0,1431,1431,0,0,0,0,1434,1434,1434,1434,0,0,1434,1434,1434,1434,1434,0,0,0,0,0,0,0,0,0,0,0,0,0,0,0,0,0,0,0,0,0,0,0,0,0,0,0,0,0,0,0,0,0,1436,0,1436,0,0,0,0,0,0,0,0,1437,1437,1437,1437,1437,1437,0,0,0,0,0,0,0,1437,0,0,0,0,0,0,1438,1438,0,1438,0,0,1436,1436,0,1438,1438,1438,1438,1438,1438,1438,1438,0,1438,0,1438,1438,1438,0,0,0,0,1436,0,1437,1439,0,1439,1436,0,0,1436,1436,1436,1437,1437,1436,0,0,0,0,1436,0,0,1436,0,1436,0,0,0,1436,0,1436,1441,1441,1441,1437,1437,1436,0,0,0,0,1436,0,0,1436,0,1436,0,0,0,1436,0,1441,1441,1441,1436,1436,0,1436,1436,0,1436,1436,1434,1434,1431,1431,1430,1430,1429,1429,1,1,1436,1436,1436,1442,1442,1436,1442,1442,1442,1431,1436,1436,1436,1443,1443,1436,1443,1443,1443,1430,1436,1436,1436,1444,1444,1436,1444,1444,1444,1429,1436,1436,1436,1445,1445,0,0,0,0,0,1436,0,0,1436,1445,1445,1429,1429,1429,1436,0,0,0,0,0,0,0,1436,0,0,1436,0,0,0,1436,1436,0,1441,1429,1429,1429,1429,1,0,0]
noncomputable def ceA1_37 : List Nat := [1425,1425,1425,0,1425,0,1425,1351,1351,1351,0,1351,0,1426,1426,0,1426,0,1426,1426,1351,1426,1426,1426,0,1426,0,1426,1426,1351,1426,1426,1426,0,1426,0,1426,1426,1351,1426,1426,1428,1,1,1,1,0,1,0,0,0,0,1429,1429,0,0,1429,1350,0,1350,1349,0,0,0,1306,0,0,0,0,1431,1431,1431,1431,1431,1431,0,0,0,1431,1431,0,0,0,0,1433,1433,1433,1433,1433,1433,0,0,1433,1433,7,0,0,0,0,7,0,0,0,7,7,0,6,16,16,0,16,5,16,1433,7,0,0,0,0,7,0,0,0,7,7,0,6,1433,16,16,16,0,16,4,16,0,1433,1433,1433,60,60,60,0,60,1,60,1433,1432,1432,0,1432,8,1432,1433,1431,1431,0,1431,1431,0,0,0,0,1434,1434,1434,1434,0,0,1434,1434,1434,1434,1434,0,0,0,0,1434,1431,60,60,60,0,60,1,60,1431,7,0,0,0,0,7,0,0,0,7,7,0,6,1431,60,60,60,0,60,1,60,21,21,21,0,21,1,21,0,1435,1435,1435,0,1435,0,1436,1436,0,1436,0,1436,1436,1435,1436,1436,1436,0,1436,0,1436,1436,1435,1436,1436,1436,0,1436,0,1436,1436,1435,1436,1436,1436,0,1436,0,1436,1436,1435,1436,1436,1438,1431,1431,1431,1431,1431,1431,1431,0,0,1431,0,0,1431,1431,1431,0,0,1431,0,0,0,0,0,0,0,0,0,0,0,0,0,0,0,0,0,0,0,0,0,0,0,0,0,0,0,0,0,0,0,0,0,0,0,0,0,1440,0,1440,0,0,0,0,0,0,0,0,1441,1441,1441,1441,1441,1441,0,0,0,0,0,0,0,1441,0,0,0,0,0,0,1442,1442,0,1442,0,0,1440,1440,0,1442,1442,1442,1442,1442,1442,1442,1442,0,1442,0,1442,1442,1442,0,0,0,0,1440,0,1441,1443,0,1443,1440,0,0,1440,1440,1440,1441,1441,1440,0,0,0,0,1440,0,0,1440,0,1440,0,0,0,1440,0,1440,1445,1445,1445,1441,1441,1440,0,0,0,0,1440,0,0,1440,0,1440,0,0,0,1440,0,1445,1445,1445,1440,1440,0,1440,1440,0,1440,1440,1431,1431,1430,1430,1429,1429,1,1,1440,1440,1440,1446,1446,1440,1446,1446,1446,1430,1440,1440,1440,1447,1447,1440,1447,1447,1447,1429,1440,1440,1440,1448,1448,0,0,0,0,0,1440,0,0,1440,1448,1448,1429,1429,1429,1440,0,0,0,0,0,0,0,1440,0,0,1440,0,0,0,1440,1440,0,1445,1429,1429,1429,1429,1,0,0]
noncomputable def ceA1_38 : List Nat := [1425,1425,1425,0,1425,0,1425,1360,1360,1360,0,1360,0,1426,1426,0,1426,0,1426,1426,1360,1426,1426,1426,0,1426,0,1426,1426,1360,1426,1426,1426,0,1426,0,1426,1426,1360,1426,1426,1428,1,1,1,1,0,1,0,0,0,0,1429,1429,0,0,1429,1359,0,1359,1358,0,0,0,1306,0,0,0,0,1431,1431,1431,1431,1431,1431,0,0,0,1431,1431,0,0,0,0,1433,1433,1433,1433,1433,1433,0,0,1433,1433,7,0,0,0,0,7,0,0,0,7,7,0,6,16,16,0,16,5,16,1433,7,0,0,0,0,7,0,0,0,7,7,0,6,1433,16,16,16,0,16,4,16,0,1433,1433,1433,60,60,60,0,60,1,60,1433,1432,1432,0,1432,8,1432,1433,1431,1431,0,1431,1431,0,0,0,0,1434,1434,1434,1434,0,0,1434,1434,60,60,60,0,60,1,60,0,0,1434,1434,1434,0,0,0,0,1434,1431,60,60,60,0,60,1,60,1431,7,0,0,0,0,7,0,0,0,7,7,0,6,1431,60,60,60,0,60,1,60,21,21,21,0,21,1,21,0,1435,1435,1435,0,1435,0,1436,1436,0,1436,0,1436,1436,1435,1436,1436,1436,0,1436,0,1436,1436,1435,1436,1436,1436,0,1436,0,1436,1436,1435,1436,1436,1436,0,1436,0,1436,1436,1435,1436,1436,1438,1431,1431,1431,1431,1431,1431,1431,0,0,1431,0,0,1431,1431,1431,0,0,1431,0,0,0,0,0,0,0,0,0,0,0,0,0,0,0,0,0,0,0,0,0,0,0,0,0,0,0,0,0,0,0,0,0,0,0,0,0,1440,0,1440,0,0,0,0,0,0,0,0,1441,1441,1441,1441,1441,1441,0,0,0,0,0,0,0,1441,0,0,0,0,0,0,1442,1442,0,1442,0,0,1440,1440,0,1442,1442,1442,1442,1442,1442,1442,1442,0,1442,0,1442,1442,1442,0,0,0,0,1440,0,1441,1443,0,1443,1440,0,0,1440,1440,1440,1441,1441,1440,0,0,0,0,1440,0,0,1440,0,1440,0,0,0,1440,0,1440,1445,1445,1445,1441,1441,1440,0,0,0,0,1440,0,0,1440,0,1440,0,0,0,1440,0,1445,1445,1445,1440,1440,0,1440,1440,0,1440,1440,1431,1431,1430,1430,1429,1429,1,1,1440,1440,1440,1446,1446,1440,1446,1446,1446,1430,1440,1440,1440,1447,1447,1440,1447,1447,1447,1429,1440,1440,1440,1448,1448,0,0,0,0,0,1440,0,0,1440,1448,1448,1429,1429,1429,1440,0,0,0,0,0,0,0,1440,0,0,1440,0,0,0,1440,1440,0,1445,1429,1429,1429,1429,1,0,0]
noncomputable def ceA1_39 : List Nat := [1425,1425,1425,0,1425,0,1425,1369,1369,1369,0,1369,0,1426,1426,0,1426,0,1426,1426,1369,1426,1426,1426,0,1426,0,1426,1426,1369,1426,1426,1426,0,1426,0,1426,1426,1369,1426,1426,1428,1,1,1,1,0,1,0,0,0,0,1429,1429,0,0,1429,1368,0,1368,1367,0,0,0,1306,0,0,0,0,1431,1431,1431,1431,1431,1431,1431,1431,0,0,0,1431,1431,0,0,0,0,1433,1433,1433,1433,1433,1433,0,0,1433,1433,7,0,0,0,0,7,0,0,0,7,7,0,6,16,16,0,16,5,16,1433,7,0,0,0,0,7,0,0,0,7,7,0,6,1433,16,16,16,0,16,4,16,0,1433,1433,1433,60,60,60,0,60,1,60,1433,1432,1432,0,1432,8,1432,1433,1431,1431,0,1431,1431,0,0,0,0,1434,1434,1434,1434,0,0,1434,1434,1434,1434,1434,0,0,0,0,1434,1431,60,60,60,0,60,1,60,1431,7,0,0,0,0,7,0,0,0,7,7,0,6,1431,60,60,60,0,60,1,60,21,21,21,0,21,1,21,0,1435,1435,1435,0,1435,0,1436,1436,0,1436,0,1436,1436,1435,1436,1436,1436,0,1436,0,1436,1436,1435,1436,1436,1436,0,1436,0,1436,1436,1435,1436,1436,1436,0,1436,0,1436,1436,1435,1436,1436,1438,1431,1431,1431,1431,1431,1431,1431,0,0,1431,0,0,1431,1431,1431,1431,0,0,1431,0,0,0,0,0,0,0,0,0,0,0,0,0,0,0,0,0,0,0,0,0,0,0,0,0,0,0,0,0,0,0,0,0,1440,0,1440,0,0,0,0,0,0,0,0,1441,1441,1441,1441,1441,1441,0,0,0,0,0,0,0,1441,0,0,0,0,0,0,1442,1442,0,1442,0,0,1440,1440,0,1442,1442,1442,1442,1442,1442,1442,1442,0,1442,0,1442,1442,1442,0,0,0,0,1440,0,1441,1443,0,1443,1440,0,0,1440,1440,1440,1441,1441,1440,0,0,0,0,1440,0,0,1440,0,1440,0,0,0,1440,0,1440,1445,1445,1445,1441,1441,1440,0,0,0,0,1440,0,0,1440,0,1440,0,0,0,1440,0,1445,1445,1445,1440,1440,0,1440,1440,0,1440,1440,1431,1431,1430,1430,1429,1429,1,1,1440,1440,1440,1446,1446,1440,1446,1446,1446,1430,1440,1440,1440,1447,1447,1440,1447,1447,1447,1429,1440,1440,1440,1448,1448,0,0,0,0,0,1440,0,0,1440,1448,1448,1429,1429,1429,1440,0,0,0,0,0,0,0,1440,0,0,1440,0,0,0,1440,1440,0,1445,1429,1429,1429,1429,1,0,0]
noncomputable def ceA1_40 : List Nat := [1425,1425,1425,0,1425,0,1425,1378,1378,1378,0,1378,0,1426,1426,0,1426,0,1426,1426,1378,1426,1426,1426,0,1426,0,1426,1426,1378,1426,1426,1426,0,1426,0,1426,1426,1378,1426,1426,1428,1,1,1,1,0,1,0,0,0,0,1429,1429,0,0,1429,1377,0,1377,1376,0,0,0,1306,0,0,0,0,1431,1431,1431,1431,1431,1431,1431,1431,0,0,0,1431,1431,0,0,0,0,1433,1433,1433,1433,1433,1433,0,0,1433,1433,7,0,0,0,0,7,0,0,0,7,7,0,6,16,16,0,16,5,16,1433,7,0,0,0,0,7,0,0,0,7,7,0,6,1433,16,16,16,0,16,4,16,0,1433,1433,1433,60,60,60,0,60,1,60,1433,1432,1432,0,1432,8,1432,1433,1431,1431,0,1431,1431,0,0,0,0,1434,1434,1434,1434,0,0,1434,1434,60,60,60,0,60,1,60,0,0,1434,1434,1434,0,0,0,0,1434,1431,60,60,60,0,60,1,60,1431,7,0,0,0,0,7,0,0,0,7,7,0,6,1431,60,60,60,0,60,1,60,21,21,21,0,21,1,21,0,1435,1435,1435,0,1435,0,1436,1436,0,1436,0,1436,1436,1435,1436,1436,1436,0,1436,0,1436,1436,1435,1436,1436,1436,0,1436,0,1436,1436,1435,1436,1436,1436,0,1436,0,1436,1436,1435,1436,1436,1438,1431,1431,1431,1431,1431,1431,1431,0,0,1431,0,0,1431,1431,1431,1431,0,0,1431,0,0,0,0,0,0,0,0,0,0,0,0,0,0,0,0,0,0,0,0,0,0,0,0,0,0,0,0,0,0,0,0,0,1440,0,1440,0,0,0,0,0,0,0,0,1441,1441,1441,1441,1441,1441,0,0,0,0,0,0,0,1441,0,0,0,0,0,0,1442,1442,0,1442,0,0,1440,1440,0,1442,1442,1442,1442,1442,1442,1442,1442,0,1442,0,1442,1442,1442,0,0,0,0,1440,0,1441,1443,0,1443,1440,0,0,1440,1440,1440,1441,1441,1440,0,0,0,0,1440,0,0,1440,0,1440,0,0,0,1440,0,1440,1445,1445,1445,1441,1441,1440,0,0,0,0,1440,0,0,1440,0,1440,0,0,0,1440,0,1445,1445,1445,1440,1440,0,1440,1440,0,1440,1440,1431,1431,1430,1430,1429,1429,1,1,1440,1440,1440,1446,1446,1440,1446,1446,1446,1430,1440,1440,1440,1447,1447,1440,1447,1447,1447,1429,1440,1440,1440,1448,1448,0,0,0,0,0,1440,0,0,1440,1448,1448,1429,1429,1429,1440,0,0,0,0,0,0,0,1440,0,0,1440,0,0,0,1440,1440,0,1445,1429,1429,1429,1429,1,0,0]
noncomputable def ceA1_41 : List Nat := [1425,1425,1425,0,1425,0,1425,1387,1387,1387,0,1387,0,1426,1426,0,1426,0,1426,1426,1387,1426,1426,1426,0,1426,0,1426,1426,1387,1426,1426,1426,0,1426,0,1426,1426,1387,1426,1426,1428,1,1,1,1,0,1,0,0,0,0,1429,1429,0,0,1429,1386,0,1386,1385,0,0,0,1306,0,0,0,0,1431,1431,1431,1431,1431,1431,0,0,0,1431,1431,0,0,0,0,1433,1433,1433,1433,1433,1433,0,0,1433,1433,7,0,0,0,0,7,0,0,0,7,7,0,6,16,16,0,16,5,16,1433,7,0,0,0,0,7,0,0,0,7,7,0,6,1433,16,16,16,0,16,4,16,0,1433,1433,1433,34,34,34,0,34,1,34,1433,1432,1432,0,1432,8,1432,0,0,0,0,0,0,0,0,0,0,0,0,0,0,0,0,0,0,0,0,0,0,0,0,0,0,0,0,0,0,0,1435,0,1435,0,0,0,0,0,0,0,0,1436,1436,1436,1436,1436,1436,0,0,0,0,0,0,0,1436,0,0,0,0,0,0,1437,1437,0,1437,0,0,1435,1435,0,1437,1437,1437,1437,1437,1437,1437,1437,0,1437,0,1437,1437,1437,0,0,0,0,1435,0,1436,1438,0,1438,1435,0,0,1435,1435,1435,1436,1436,1435,0,0,0,0,1435,0,0,1435,0,1435,0,0,0,1435,0,1435,1440,1440,1440,1436,1436,1435,0,0,0,0,1435,0,0,1435,0,1435,0,0,0,1435,0,1440,1440,1440,1435,1435,0,1435,1435,0,1435,1435,1433,1433,1431,1431,1430,1430,1429,1429,1,1,1435,1435,1435,1441,1441,1435,1441,1441,1441,1431,1435,1435,1435,1442,1442,1435,1442,1442,1442,1430,1435,1435,1435,1443,1443,1435,1443,1443,1443,1429,1435,1435,1435,1444,1444,0,0,0,0,0,1435,0,0,1435,1444,1444,1429,1429,1429,1435,0,0,0,0,0,0,0,1435,0,0,1435,0,0,0,1435,1435,0,1440,1429,1429,1429,1429,1,0,0]
noncomputable def ceA1_42 : List Nat := [1425,1425,1425,0,1425,0,1425,1396,1396,1396,0,1396,0,1426,1426,0,1426,0,1426,1426,1396,1426,1426,1426,0,1426,0,1426,1426,1396,1426,1426,1426,0,1426,0,1426,1426,1396,1426,1426,1428,1,1,1,1,0,1,0,0,0,0,1429,1429,0,0,1429,1395,0,1395,1394,0,0,0,1306,0,0,0,0,1431,1431,1431,1431,1431,1431,1431,1431,0,0,0,1431,1431,0,0,0,0,1433,1433,1433,1433,1433,1433,0,0,1433,1433,7,0,0,0,0,7,0,0,0,7,7,0,6,16,16,0,16,0,0,0,16,0,0,0,0,0,0,0,0,0,0,0,0,0,0,0,0,0,0,0,0,0,0,0,0,0,0,0,0,0,0,0,1435,0,1435,0,0,0,0,0,0,0,0,1436,1436,1436,1436,1436,1436,0,0,0,0,0,0,0,1436,0,0,0,0,0,0,1437,1437,0,1437,0,0,1435,1435,0,1437,1437,1437,1437,1437,1437,1437,1437,0,1437,0,1437,1437,1437,0,0,0,0,1435,0,1436,1438,0,1438,1435,0,0,1435,1435,1435,1436,1436,1435,0,0,0,0,1435,0,0,1435,0,1435,0,0,0,1435,0,1435,1440,1440,1440,1436,1436,1435,0,0,0,0,1435,0,0,1435,0,1435,0,0,0,1435,0,1440,1440,1440,1435,1435,0,1435,1435,0,1435,1435,1433,1433,1431,1431,1430,1430,1429,1429,1,1,1435,1435,1435,1441,1441,1435,1441,1441,1441,1431,1435,1435,1435,1442,1442,1435,1442,1442,1442,1430,1435,1435,1435,1443,1443,1435,1443,1443,1443,1429,1435,1435,1435,1444,1444,0,0,0,0,0,1435,0,0,1435,1444,1444,1429,1429,1429,1435,0,0,0,0,0,0,0,1435,0,0,1435,0,0,0,1435,1435,0,1440,1429,1429,1429,1429,1,0,0]
noncomputable def ceA1_43 : List Nat := [1425,1425,1425,0,1425,0,1425,1405,1405,1405,0,1405,0,1426,1426,0,1426,0,1426,1426,1405,1426,1426,1426,0,1426,0,1426,1426,1405,1426,1426,1426,0,1426,0,1426,1426,1405,1426,1426,1428,1,1,1,1,0,1,0,0,0,0,1429,1429,0,0,1429,1404,0,1404,1403,0,0,0,1306,0,0,0,0,1434,1434,1434,1434,1434,1434,0,0,0,1434,1434,0,0,0,0,1436,1436,1436,1436,1436,1436,0,0,1436,1436,7,0,0,0,0,7,0,0,0,7,7,0,6,16,16,0,16,5,16,1436,7,0,0,0,0,7,0,0,0,7,7,0,6,1436,16,16,16,0,16,4,16,0,1436,1436,1436,60,60,60,0,60,1,60,1436,1435,1435,0,1435,8,1435,1436,1434,1434,1434,1433,1433,0,1433,0,1437,4,12,1437,0,1437,0,1437,0,1437,1437,1433,1437,1437,1437,1431,1431,1431,0,1431,0,1440,1440,0,1440,0,1440,1440,1431,1440,1440,1440,0,1440,0,1440,1440,1431,1440,1440,1440,0,1440,0,1440,1440,1431,1440,1440,1442,1439,1439,1439,1439,1439,0,0,0,1437,0,1437,0,1437,1437,1433,1437,1437,1437,1432,1432,1432,0,1432,0,1443,1443,0,1443,0,1443,1443,1432,1443,1443,1443,0,1443,0,1443,1443,1432,1443,1443,1443,0,1443,0,1443,1443,1432,1443,1443,1445,1439,1439,1439,1439,1439,0,0,0,1437,0,1437,0,1437,1437,1433,1437,1437,1447,1439,1439,1439,1439,1439,1439,1438,1448,1438,0,1438,11,1438,1448,0,0,1434,1433,1433,0,1433,0,1449,4,12,1449,0,1449,0,1449,0,1449,1449,1433,1449,1449,1449,1431,1431,1431,0,1431,0,1452,1452,0,1452,0,1452,1452,1431,1452,1452,1452,0,1452,0,1452,1452,1431,1452,1452,1452,0,1452,0,1452,1452,1431,1452,1452,1454,1451,1451,1451,1451,1451,0,1450,0,1450,1450,1450,0,1449,0,1449,0,1449,1449,1433,1449,1449,1449,1432,1432,1432,0,1432,0,1455,1455,0,1455,0,1455,1455,1432,1455,1455,1455,0,1455,0,1455,1455,1432,1455,1455,1455,0,1455,0,1455,1455,1432,1455,1455,1457,1451,1451,1451,1451,1451,0,1450,0,1450,1450,1450,0,1449,0,1449,0,1449,1449,1433,1449,1449,1459,1451,1451,1451,1451,1451,1451,0,0,1450,1450,0,1450,0,1460,0,1461,1460,0,1460,0,1460,1460,1450,1460,1460,1461,1461,1461,0,1461,1460,0,1460,0,1460,1460,1450,1460,1460,1461,1461,1461,0,1461,1460,0,1460,0,1460,1460,1450,1460,1460,1463,1434,60,60,60,0,60,1,60,0,0,0,0,0,0,0,0,0,0,0,0,0,0,0,0,0,0,0,0,0,0,0,0,0,0,0,0,0,0,0,0,0,1465,0,1465,0,0,0,0,0,0,0,0,1466,1466,1466,1466,1466,1466,0,0,0,0,0,0,0,1466,0,0,0,0,0,0,1467,1467,0,1467,0,0,1465,1465,0,1467,1467,1467,1467,1467,1467,1467,1467,0,1467,0,1467,1467,1467,0,0,0,0,1465,0,1466,1468,0,1468,1465,0,0,1465,1465,1465,1466,1466,1465,0,0,0,0,1465,0,0,1465,0,1465,0,0,0,1465,0,1465,1470,1470,1470,1466,1466,1465,0,0,0,0,1465,0,0,1465,0,1465,0,0,0,1465,0,1470,1470,1470,1465,1465,0,1465,1465,0,1465,1465,1434,1434,1430,1430,1429,1429,1,1,1465,1465,1465,1471,1471,1465,1471,1471,1471,1430,1465,1465,1465,1472,1472,1465,1472,1472,1472,1429,1465,1465,1465,1473,1473,0,0,0,0,0,1465,0,0,1465,1473,1473,1429,1429,1429,1465,0,0,0,0,0,0,0,1465,0,0,1465,0,0,0,1465,1465,0,1470,1429,1429,1429,1429,1,0,0]
noncomputable def ceA1_44 : List Nat := [1425,1425,1425,0,1425,0,1425,1414,1414,1414,0,1414,0,1426,1426,0,1426,0,1426,1426,1414,1426,1426,1426,0,1426,0,1426,1426,1414,1426,1426,1426,0,1426,0,1426,1426,1414,1426,1426,1428,1,1,1,1,0,1,0,0,0,0,1429,1429,0,0,1429,1413,0,1413,1412,0,0,0,1306,0,0,0,0,0,0,1434,1434,1434,1434,1434,1434,0,0,0,1434,1434,0,0,0,0,1436,1436,1436,1436,1436,1436,0,0,1436,1436,7,0,0,0,0,7,0,0,0,7,7,0,6,16,16,0,16,5,16,1436,7,0,0,0,0,7,0,0,0,7,7,0,6,1436,16,16,16,0,16,4,16,0,1436,1436,1436,60,60,60,0,60,1,60,1436,1435,1435,0,1435,8,1435,1436,1434,1434,1434,1433,1433,0,1433,0,1437,4,12,1437,0,1437,0,1437,0,1437,1437,1433,1437,1437,1437,1431,1431,1431,0,1431,0,1440,1440,0,1440,0,1440,1440,1431,1440,1440,1440,0,1440,0,1440,1440,1431,1440,1440,1440,0,1440,0,1440,1440,1431,1440,1440,1442,1439,1439,1439,1439,1439,0,0,0,1437,0,1437,0,1437,1437,1433,1437,1437,1437,1432,1432,1432,0,1432,0,1443,1443,0,1443,0,1443,1443,1432,1443,1443,1443,0,1443,0,1443,1443,1432,1443,1443,1443,0,1443,0,1443,1443,1432,1443,1443,1445,1439,1439,1439,1439,1439,0,0,1439,0,1438,0,1438,1438,1438,0,1437,0,1437,0,1437,1437,1433,1437,1437,1447,1439,1439,1439,1439,1439,1439,1438,1448,1438,0,1438,11,1438,1448,0,0,0,0,0,0,0,0,0,0,0,0,0,0,0,0,0,0,0,0,0,0,0,0,0,0,0,0,0,0,0,1450,0,1450,0,0,0,0,0,0,0,0,1451,1451,1451,1451,1451,1451,0,0,0,0,0,0,0,1451,0,0,0,0,0,0,1452,1452,0,1452,0,0,1450,1450,0,1452,1452,1452,1452,1452,1452,1452,1452,0,1452,0,1452,1452,1452,0,0,0,0,1450,0,1451,1453,0,1453,1450,0,0,1450,1450,1450,1451,1451,1450,0,0,0,0,1450,0,0,1450,0,1450,0,0,0,1450,0,1450,1455,1455,1455,1451,1451,1450,0,0,0,0,1450,0,0,1450,0,1450,0,0,0,1450,0,1455,1455,1455,1450,1450,0,1450,1450,0,1450,1450,1434,1434,1430,1430,1429,1429,1,1,1450,1450,1450,1456,1456,1450,1456,1456,1456,1430,1450,1450,1450,1457,1457,1450,1457,1457,1457,1429,1450,1450,1450,1458,1458,0,0,0,0,0,1450,0,0,1450,1458,1458,1429,1429,1429,1450,0,0,0,0,0,0,0,1450,0,0,1450,0,0,0,1450,1450,0,1455,1429,1429,1429,1429,1,0,0]
noncomputable def ceA1_45 : List Nat := [1425,1425,1425,0,1425,0,1425,1423,1423,1423,0,1423,0,1426,1426,0,1426,0,1426,1426,1423,1426,1426,1426,0,1426,0,1426,1426,1423,1426,1426,1426,0,1426,0,1426,1426,1423,1426,1426,1428,1,1,1,1,0,1,0,0,0,0,1429,1429,0,0,1429,1422,0,1422,1421,0,0,0,1306,0,0,0,0,1433,1433,1433,1433,1433,1433,0,0,0,1433,1433,0,0,0,0,1435,1435,1435,1435,1435,1435,0,0,1435,1435,7,0,0,0,0,7,0,0,0,7,7,0,6,16,16,0,16,5,16,1435,7,0,0,0,0,7,0,0,0,7,7,0,6,1435,16,16,16,0,16,4,16,0,1435,1435,1435,47,47,47,0,47,1,47,1435,1434,1434,0,1434,8,1434,0,0,0,0,0,0,0,0,0,0,0,0,0,0,0,0,0,0,0,0,0,0,0,0,0,0,0,0,0,0,0,1437,0,1437,0,0,0,0,0,0,0,0,1438,1438,1438,1438,1438,1438,0,0,0,0,0,0,0,1438,0,0,0,0,0,0,1439,1439,0,1439,0,0,1437,1437,0,1439,1439,1439,1439,1439,1439,1439,1439,0,1439,0,1439,1439,1439,0,0,0,0,1437,0,1438,1440,0,1440,1437,0,0,1437,1437,1437,1438,1438,1437,0,0,0,0,1437,0,0,1437,0,1437,0,0,0,1437,0,1437,1442,1442,1442,1438,1438,1437,0,0,0,0,1437,0,0,1437,0,1437,0,0,0,1437,0,1442,1442,1442,1437,1437,0,1437,1437,0,1437,1437,1435,1435,1433,1433,1430,1430,1429,1429,1,1,1437,1437,1437,1443,1443,1437,1443,1443,1443,1433,1437,1437,1437,1444,1444,1437,1444,1444,1444,1430,1437,1437,1437,1445,1445,1437,1445,1445,1445,1429,1437,1437,1437,1446,1446,0,0,0,0,0,1437,0,0,1437,1446,1446,1429,1429,1429,1437,0,0,0,0,0,0,0,1437,0,0,1437,0,0,0,1437,1437,0,1442,1429,1429,1429,1429,1,0,0]
set_option maxHeartbeats 0 in
theorem tb1_g0 (w : World) (sc : Obj) (d2 : Option Addr) (vs2 : Array Value) (n2 : Nat) (sl2 : Array (Option Value)) (p pF p0 : Pos) (A U : Nat → Nat) (I : Nat) (fv : Value) (c r : Nat) (ts as : Nat → Nat) (t tt vt : Nat) (ts2 as2 : Nat → Nat) :
    finL (tl1 w (listO d2 vs2 n2 sl2) A U I c r ts as t tt ts2 (tb1 w sc (listO d2 vs2 n2 sl2) p pF p0 A U I fv c r ts as 0 t tt vt ts2 as2 ceA1_0)) (tb1 w sc (listO d2 vs2 n2 sl2) p pF p0 A U I fv c r ts as 0 t tt vt ts2 as2 ceA1_0) = finR (tl1 w (listO d2 vs2 n2 sl2) A U I c r ts as t tt ts2 (tb1 w sc (listO d2 vs2 n2 sl2) p pF p0 A U I fv c r ts as 0 t tt vt ts2 as2 ceA1_0)) (KB2 w sc as) (.ok (.ret .none)) (tb1 w sc (listO d2 vs2 n2 sl2) p pF p0 A U I fv c r ts as 0 t tt vt ts2 as2 ceA1_0) ∧
    finL (tl1 w (listO d2 vs2 n2 sl2) A U I c r ts as t tt ts2 (tb1 w sc (listO d2 vs2 n2 sl2) p pF p0 A U I fv c r ts as 1 t tt vt ts2 as2 ceA1_1)) (tb1 w sc (listO d2 vs2 n2 sl2) p pF p0 A U I fv c r ts as 1 t tt vt ts2 as2 ceA1_1) = finR (tl1 w (listO d2 vs2 n2 sl2) A U I c r ts as t tt ts2 (tb1 w sc (listO d2 vs2 n2 sl2) p pF p0 A U I fv c r ts as 1 t tt vt ts2 as2 ceA1_1)) (KB2 w sc as) (.ok (.ret .none)) (tb1 w sc (listO d2 vs2 n2 sl2) p pF p0 A U I fv c r ts as 1 t tt vt ts2 as2 ceA1_1) ∧
    finL (tl1 w (listO d2 vs2 n2 sl2) A U I c r ts as t tt ts2 (tb1 w sc (listO d2 vs2 n2 sl2) p pF p0 A U I fv c r ts as 2 t tt vt ts2 as2 ceA1_2)) (tb1 w sc (listO d2 vs2 n2 sl2) p pF p0 A U I fv c r ts as 2 t tt vt ts2 as2 ceA1_2) = finR (tl1 w (listO d2 vs2 n2 sl2) A U I c r ts as t tt ts2 (tb1 w sc (listO d2 vs2 n2 sl2) p pF p0 A U I fv c r ts as 2 t tt vt ts2 as2 ceA1_2)) (KB2 w sc as) (.ok (.ret .none)) (tb1 w sc (listO d2 vs2 n2 sl2) p pF p0 A U I fv c r ts as 2 t tt vt ts2 as2 ceA1_2) ∧
    finL (tl1 w (listO d2 vs2 n2 sl2) A U I c r ts as t tt ts2 (tb1 w sc (listO d2 vs2 n2 sl2) p pF p0 A U I fv c r ts as 3 t tt vt ts2 as2 ceA1_3)) (tb1 w sc (listO d2 vs2 n2 sl2) p pF p0 A U I fv c r ts as 3 t tt vt ts2 as2 ceA1_3) = finR (tl1 w (listO d2 vs2 n2 sl2) A U I c r ts as t tt ts2 (tb1 w sc (listO d2 vs2 n2 sl2) p pF p0 A U I fv c r ts as 3 t tt vt ts2 as2 ceA1_3)) (KB2 w sc as) (.ok (.ret .none)) (tb1 w sc (listO d2 vs2 n2 sl2) p pF p0 A U I fv c r ts as 3 t tt vt ts2 as2 ceA1_3) ∧
    finL (tl1 w (listO d2 vs2 n2 sl2) A U I c r ts as t tt ts2 (tb1 w sc (listO d2 vs2 n2 sl2) p pF p0 A U I fv c r ts as 4 t tt vt ts2 as2 ceA1_4)) (tb1 w sc (listO d2 vs2 n2 sl2) p pF p0 A U I fv c r ts as 4 t tt vt ts2 as2 ceA1_4) = finR (tl1 w (listO d2 vs2 n2 sl2) A U I c r ts as t tt ts2 (tb1 w sc (listO d2 vs2 n2 sl2) p pF p0 A U I fv c r ts as 4 t tt vt ts2 as2 ceA1_4)) (KB2 w sc as) (.ok (.ret .none)) (tb1 w sc (listO d2 vs2 n2 sl2) p pF p0 A U I fv c r ts as 4 t tt vt ts2 as2 ceA1_4) ∧
    finL (tl1 w (listO d2 vs2 n2 sl2) A U I c r ts as t tt ts2 (tb1 w sc (listO d2 vs2 n2 sl2) p pF p0 A U I fv c r ts as 5 t tt vt ts2 as2 ceA1_5)) (tb1 w sc (listO d2 vs2 n2 sl2) p pF p0 A U I fv c r ts as 5 t tt vt ts2 as2 ceA1_5) = finR (tl1 w (listO d2 vs2 n2 sl2) A U I c r ts as t tt ts2 (tb1 w sc (listO d2 vs2 n2 sl2) p pF p0 A U I fv c r ts as 5 t tt vt ts2 as2 ceA1_5)) (KB2 w sc as) (.ok (.ret .none)) (tb1 w sc (listO d2 vs2 n2 sl2) p pF p0 A U I fv c r ts as 5 t tt vt ts2 as2 ceA1_5) ∧
    finL (tl1 w (listO d2 vs2 n2 sl2) A U I c r ts as t tt ts2 (tb1 w sc (listO d2 vs2 n2 sl2) p pF p0 A U I fv c r ts as 6 t tt vt ts2 as2 ceA1_6)) (tb1 w sc (listO d2 vs2 n2 sl2) p pF p0 A U I fv c r ts as 6 t tt vt ts2 as2 ceA1_6) = finR (tl1 w (listO d2 vs2 n2 sl2) A U I c r ts as t tt ts2 (tb1 w sc (listO d2 vs2 n2 sl2) p pF p0 A U I fv c r ts as 6 t tt vt ts2 as2 ceA1_6)) (KB2 w sc as) (.ok (.ret .none)) (tb1 w sc (listO d2 vs2 n2 sl2) p pF p0 A U I fv c r ts as 6 t tt vt ts2 as2 ceA1_6) ∧
    finL (tl1 w (listO d2 vs2 n2 sl2) A U I c r ts as t tt ts2 (tb1 w sc (listO d2 vs2 n2 sl2) p pF p0 A U I fv c r ts as 7 t tt vt ts2 as2 ceA1_7)) (tb1 w sc (listO d2 vs2 n2 sl2) p pF p0 A U I fv c r ts as 7 t tt vt ts2 as2 ceA1_7) = finR (tl1 w (listO d2 vs2 n2 sl2) A U I c r ts as t tt ts2 (tb1 w sc (listO d2 vs2 n2 sl2) p pF p0 A U I fv c r ts as 7 t tt vt ts2 as2 ceA1_7)) (KB2 w sc as) (.ok (.ret .none)) (tb1 w sc (listO d2 vs2 n2 sl2) p pF p0 A U I fv c r ts as 7 t tt vt ts2 as2 ceA1_7) ∧
    finL (tl1 w (listO d2 vs2 n2 sl2) A U I c r ts as t tt ts2 (tb1 w sc (listO d2 vs2 n2 sl2) p pF p0 A U I fv c r ts as 8 t tt vt ts2 as2 ceA1_8)) (tb1 w sc (listO d2 vs2 n2 sl2) p pF p0 A U I fv c r ts as 8 t tt vt ts2 as2 ceA1_8) = finR (tl1 w (listO d2 vs2 n2 sl2) A U I c r ts as t tt ts2 (tb1 w sc (listO d2 vs2 n2 sl2) p pF p0 A U I fv c r ts as 8 t tt vt ts2 as2 ceA1_8)) (KB2 w sc as) (.ok (.ret .none)) (tb1 w sc (listO d2 vs2 n2 sl2) p pF p0 A U I fv c r ts as 8 t tt vt ts2 as2 ceA1_8) ∧
    finL (tl1 w (listO d2 vs2 n2 sl2) A U I c r ts as t tt ts2 (tb1 w sc (listO d2 vs2 n2 sl2) p pF p0 A U I fv c r ts as 9 t tt vt ts2 as2 ceA1_9)) (tb1 w sc (listO d2 vs2 n2 sl2) p pF p0 A U I fv c r ts as 9 t tt vt ts2 as2 ceA1_9) = finR (tl1 w (listO d2 vs2 n2 sl2) A U I c r ts as t tt ts2 (tb1 w sc (listO d2 vs2 n2 sl2) p pF p0 A U I fv c r ts as 9 t tt vt ts2 as2 ceA1_9)) (KB2 w sc as) (.ok (.ret .none)) (tb1 w sc (listO d2 vs2 n2 sl2) p pF p0 A U I fv c r ts as 9 t tt vt ts2 as2 ceA1_9) ∧
    finL (tl1 w (listO d2 vs2 n2 sl2) A U I c r ts as t tt ts2 (tb1 w sc (listO d2 vs2 n2 sl2) p pF p0 A U I fv c r ts as 10 t tt vt ts2 as2 ceA1_10)) (tb1 w sc (listO d2 vs2 n2 sl2) p pF p0 A U I fv c r ts as 10 t tt vt ts2 as2 ceA1_10) = finR (tl1 w (listO d2 vs2 n2 sl2) A U I c r ts as t tt ts2 (tb1 w sc (listO d2 vs2 n2 sl2) p pF p0 A U I fv c r ts as 10 t tt vt ts2 as2 ceA1_10)) (KB2 w sc as) (.ok (.ret .none)) (tb1 w sc (listO d2 vs2 n2 sl2) p pF p0 A U I fv c r ts as 10 t tt vt ts2 as2 ceA1_10) ∧
    finL (tl1 w (listO d2 vs2 n2 sl2) A U I c r ts as t tt ts2 (tb1 w sc (listO d2 vs2 n2 sl2) p pF p0 A U I fv c r ts as 11 t tt vt ts2 as2 ceA1_11)) (tb1 w sc (listO d2 vs2 n2 sl2) p pF p0 A U I fv c r ts as 11 t tt vt ts2 as2 ceA1_11) = finR (tl1 w (listO d2 vs2 n2 sl2) A U I c r ts as t tt ts2 (tb1 w sc (listO d2 vs2 n2 sl2) p pF p0 A U I fv c r ts as 11 t tt vt ts2 as2 ceA1_11)) (KB2 w sc as) (.ok (.ret .none)) (tb1 w sc (listO d2 vs2 n2 sl2) p pF p0 A U I fv c r ts as 11 t tt vt ts2 as2 ceA1_11) :=
  ⟨by kernel_rfl, by kernel_rfl, by kernel_rfl, by kernel_rfl, by kernel_rfl, by kernel_rfl, by kernel_rfl, by kernel_rfl, by kernel_rfl, by kernel_rfl, by kernel_rfl, by kernel_rfl⟩
set_option maxHeartbeats 0 in
theorem tb1_g1 (w : World) (sc : Obj) (d2 : Option Addr) (vs2 : Array Value) (n2 : Nat) (sl2 : Array (Option Value)) (p pF p0 : Pos) (A U : Nat → Nat) (I : Nat) (fv : Value) (c r : Nat) (ts as : Nat → Nat) (t tt vt : Nat) (ts2 as2 : Nat → Nat) :
    finL (tl1 w (listO d2 vs2 n2 sl2) A U I c r ts as t tt ts2 (tb1 w sc (listO d2 vs2 n2 sl2) p pF p0 A U I fv c r ts as 12 t tt vt ts2 as2 ceA1_12)) (tb1 w sc (listO d2 vs2 n2 sl2) p pF p0 A U I fv c r ts as 12 t tt vt ts2 as2 ceA1_12) = finR (tl1 w (listO d2 vs2 n2 sl2) A U I c r ts as t tt ts2 (tb1 w sc (listO d2 vs2 n2 sl2) p pF p0 A U I fv c r ts as 12 t tt vt ts2 as2 ceA1_12)) (KB2 w sc as) (.ok (.ret .none)) (tb1 w sc (listO d2 vs2 n2 sl2) p pF p0 A U I fv c r ts as 12 t tt vt ts2 as2 ceA1_12) ∧
    finL (tl1 w (listO d2 vs2 n2 sl2) A U I c r ts as t tt ts2 (tb1 w sc (listO d2 vs2 n2 sl2) p pF p0 A U I fv c r ts as 13 t tt vt ts2 as2 ceA1_13)) (tb1 w sc (listO d2 vs2 n2 sl2) p pF p0 A U I fv c r ts as 13 t tt vt ts2 as2 ceA1_13) = finR (tl1 w (listO d2 vs2 n2 sl2) A U I c r ts as t tt ts2 (tb1 w sc (listO d2 vs2 n2 sl2) p pF p0 A U I fv c r ts as 13 t tt vt ts2 as2 ceA1_13)) (KB2 w sc as) (.ok (.ret .none)) (tb1 w sc (listO d2 vs2 n2 sl2) p pF p0 A U I fv c r ts as 13 t tt vt ts2 as2 ceA1_13) ∧
    finL (tl1 w (listO d2 vs2 n2 sl2) A U I c r ts as t tt ts2 (tb1 w sc (listO d2 vs2 n2 sl2) p pF p0 A U I fv c r ts as 14 t tt vt ts2 as2 ceA1_14)) (tb1 w sc (listO d2 vs2 n2 sl2) p pF p0 A U I fv c r ts as 14 t tt vt ts2 as2 ceA1_14) = finR (tl1 w (listO d2 vs2 n2 sl2) A U I c r ts as t tt ts2 (tb1 w sc (listO d2 vs2 n2 sl2) p pF p0 A U I fv c r ts as 14 t tt vt ts2 as2 ceA1_14)) (KB2 w sc as) (.ok (.ret .none)) (tb1 w sc (listO d2 vs2 n2 sl2) p pF p0 A U I fv c r ts as 14 t tt vt ts2 as2 ceA1_14) ∧
    finL (tl1 w (listO d2 vs2 n2 sl2) A U I c r ts as t tt ts2 (tb1 w sc (listO d2 vs2 n2 sl2) p pF p0 A U I fv c r ts as 15 t tt vt ts2 as2 ceA1_15)) (tb1 w sc (listO d2 vs2 n2 sl2) p pF p0 A U I fv c r ts as 15 t tt vt ts2 as2 ceA1_15) = finR (tl1 w (listO d2 vs2 n2 sl2) A U I c r ts as t tt ts2 (tb1 w sc (listO d2 vs2 n2 sl2) p pF p0 A U I fv c r ts as 15 t tt vt ts2 as2 ceA1_15)) (KB2 w sc as) (.ok (.ret .none)) (tb1 w sc (listO d2 vs2 n2 sl2) p pF p0 A U I fv c r ts as 15 t tt vt ts2 as2 ceA1_15) ∧
    finL (tl1 w (listO d2 vs2 n2 sl2) A U I c r ts as t tt ts2 (tb1 w sc (listO d2 vs2 n2 sl2) p pF p0 A U I fv c r ts as 16 t tt vt ts2 as2 ceA1_16)) (tb1 w sc (listO d2 vs2 n2 sl2) p pF p0 A U I fv c r ts as 16 t tt vt ts2 as2 ceA1_16) = finR (tl1 w (listO d2 vs2 n2 sl2) A U I c r ts as t tt ts2 (tb1 w sc (listO d2 vs2 n2 sl2) p pF p0 A U I fv c r ts as 16 t tt vt ts2 as2 ceA1_16)) (KB2 w sc as) (.ok (.ret .none)) (tb1 w sc (listO d2 vs2 n2 sl2) p pF p0 A U I fv c r ts as 16 t tt vt ts2 as2 ceA1_16) ∧
    finL (tl1 w (listO d2 vs2 n2 sl2) A U I c r ts as t tt ts2 (tb1 w sc (listO d2 vs2 n2 sl2) p pF p0 A U I fv c r ts as 17 t tt vt ts2 as2 ceA1_17)) (tb1 w sc (listO d2 vs2 n2 sl2) p pF p0 A U I fv c r ts as 17 t tt vt ts2 as2 ceA1_17) = finR (tl1 w (listO d2 vs2 n2 sl2) A U I c r ts as t tt ts2 (tb1 w sc (listO d2 vs2 n2 sl2) p pF p0 A U I fv c r ts as 17 t tt vt ts2 as2 ceA1_17)) (KB2 w sc as) (.ok (.ret .none)) (tb1 w sc (listO d2 vs2 n2 sl2) p pF p0 A U I fv c r ts as 17 t tt vt ts2 as2 ceA1_17) ∧
    finL (tl1 w (listO d2 vs2 n2 sl2) A U I c r ts as t tt ts2 (tb1 w sc (listO d2 vs2 n2 sl2) p pF p0 A U I fv c r ts as 18 t tt vt ts2 as2 ceA1_18)) (tb1 w sc (listO d2 vs2 n2 sl2) p pF p0 A U I fv c r ts as 18 t tt vt ts2 as2 ceA1_18) = finR (tl1 w (listO d2 vs2 n2 sl2) A U I c r ts as t tt ts2 (tb1 w sc (listO d2 vs2 n2 sl2) p pF p0 A U I fv c r ts as 18 t tt vt ts2 as2 ceA1_18)) (KB2 w sc as) (.ok (.ret .none)) (tb1 w sc (listO d2 vs2 n2 sl2) p pF p0 A U I fv c r ts as 18 t tt vt ts2 as2 ceA1_18) ∧
    finL (tl1 w (listO d2 vs2 n2 sl2) A U I c r ts as t tt ts2 (tb1 w sc (listO d2 vs2 n2 sl2) p pF p0 A U I fv c r ts as 19 t tt vt ts2 as2 ceA1_19)) (tb1 w sc (listO d2 vs2 n2 sl2) p pF p0 A U I fv c r ts as 19 t tt vt ts2 as2 ceA1_19) = finR (tl1 w (listO d2 vs2 n2 sl2) A U I c r ts as t tt ts2 (tb1 w sc (listO d2 vs2 n2 sl2) p pF p0 A U I fv c r ts as 19 t tt vt ts2 as2 ceA1_19)) (KB2 w sc as) (.ok (.ret .none)) (tb1 w sc (listO d2 vs2 n2 sl2) p pF p0 A U I fv c r ts as 19 t tt vt ts2 as2 ceA1_19) ∧
    finL (tl1 w (listO d2 vs2 n2 sl2) A U I c r ts as t tt ts2 (tb1 w sc (listO d2 vs2 n2 sl2) p pF p0 A U I fv c r ts as 20 t tt vt ts2 as2 ceA1_20)) (tb1 w sc (listO d2 vs2 n2 sl2) p pF p0 A U I fv c r ts as 20 t tt vt ts2 as2 ceA1_20) = finR (tl1 w (listO d2 vs2 n2 sl2) A U I c r ts as t tt ts2 (tb1 w sc (listO d2 vs2 n2 sl2) p pF p0 A U I fv c r ts as 20 t tt vt ts2 as2 ceA1_20)) (KB2 w sc as) (.ok (.ret .none)) (tb1 w sc (listO d2 vs2 n2 sl2) p pF p0 A U I fv c r ts as 20 t tt vt ts2 as2 ceA1_20) ∧
    finL (tl1 w (listO d2 vs2 n2 sl2) A U I c r ts as t tt ts2 (tb1 w sc (listO d2 vs2 n2 sl2) p pF p0 A U I fv c r ts as 21 t tt vt ts2 as2 ceA1_21)) (tb1 w sc (listO d2 vs2 n2 sl2) p pF p0 A U I fv c r ts as 21 t tt vt ts2 as2 ceA1_21) = finR (tl1 w (listO d2 vs2 n2 sl2) A U I c r ts as t tt ts2 (tb1 w sc (listO d2 vs2 n2 sl2) p pF p0 A U I fv c r ts as 21 t tt vt ts2 as2 ceA1_21)) (KB2 w sc as) (.ok (.ret .none)) (tb1 w sc (listO d2 vs2 n2 sl2) p pF p0 A U I fv c r ts as 21 t tt vt ts2 as2 ceA1_21) ∧
    finL (tl1 w (listO d2 vs2 n2 sl2) A U I c r ts as t tt ts2 (tb1 w sc (listO d2 vs2 n2 sl2) p pF p0 A U I fv c r ts as 22 t tt vt ts2 as2 ceA1_22)) (tb1 w sc (listO d2 vs2 n2 sl2) p pF p0 A U I fv c r ts as 22 t tt vt ts2 as2 ceA1_22) = finR (tl1 w (listO d2 vs2 n2 sl2) A U I c r ts as t tt ts2 (tb1 w sc (listO d2 vs2 n2 sl2) p pF p0 A U I fv c r ts as 22 t tt vt ts2 as2 ceA1_22)) (KB2 w sc as) (.ok (.ret .none)) (tb1 w sc (listO d2 vs2 n2 sl2) p pF p0 A U I fv c r ts as 22 t tt vt ts2 as2 ceA1_22) ∧
    finL (tl1 w (listO d2 vs2 n2 sl2) A U I c r ts as t tt ts2 (tb1 w sc (listO d2 vs2 n2 sl2) p pF p0 A U I fv c r ts as 23 t tt vt ts2 as2 ceA1_23)) (tb1 w sc (listO d2 vs2 n2 sl2) p pF p0 A U I fv c r ts as 23 t tt vt ts2 as2 ceA1_23) = finR (tl1 w (listO d2 vs2 n2 sl2) A U I c r ts as t tt ts2 (tb1 w sc (listO d2 vs2 n2 sl2) p pF p0 A U I fv c r ts as 23 t tt vt ts2 as2 ceA1_23)) (KB2 w sc as) (.ok (.ret .none)) (tb1 w sc (listO d2 vs2 n2 sl2) p pF p0 A U I fv c r ts as 23 t tt vt ts2 as2 ceA1_23) :=
  ⟨by kernel_rfl, by kernel_rfl, by kernel_rfl, by kernel_rfl, by kernel_rfl, by kernel_rfl, by kernel_rfl, by kernel_rfl, by kernel_rfl, by kernel_rfl, by kernel_rfl, by kernel_rfl⟩
set_option maxHeartbeats 0 in
theorem tb1_g2 (w : World) (sc : Obj) (d2 : Option Addr) (vs2 : Array Value) (n2 : Nat) (sl2 : Array (Option Value)) (p pF p0 : Pos) (A U : Nat → Nat) (I : Nat) (fv : Value) (c r : Nat) (ts as : Nat → Nat) (t tt vt : Nat) (ts2 as2 : Nat → Nat) :
    finL (tl1 w (listO d2 vs2 n2 sl2) A U I c r ts as t tt ts2 (tb1 w sc (listO d2 vs2 n2 sl2) p pF p0 A U I fv c r ts as 24 t tt vt ts2 as2 ceA1_24)) (tb1 w sc (listO d2 vs2 n2 sl2) p pF p0 A U I fv c r ts as 24 t tt vt ts2 as2 ceA1_24) = finR (tl1 w (listO d2 vs2 n2 sl2) A U I c r ts as t tt ts2 (tb1 w sc (listO d2 vs2 n2 sl2) p pF p0 A U I fv c r ts as 24 t tt vt ts2 as2 ceA1_24)) (KB2 w sc as) (.ok (.ret .none)) (tb1 w sc (listO d2 vs2 n2 sl2) p pF p0 A U I fv c r ts as 24 t tt vt ts2 as2 ceA1_24) ∧
    finL (tl1 w (listO d2 vs2 n2 sl2) A U I c r ts as t tt ts2 (tb1 w sc (listO d2 vs2 n2 sl2) p pF p0 A U I fv c r ts as 25 t tt vt ts2 as2 ceA1_25)) (tb1 w sc (listO d2 vs2 n2 sl2) p pF p0 A U I fv c r ts as 25 t tt vt ts2 as2 ceA1_25) = finR (tl1 w (listO d2 vs2 n2 sl2) A U I c r ts as t tt ts2 (tb1 w sc (listO d2 vs2 n2 sl2) p pF p0 A U I fv c r ts as 25 t tt vt ts2 as2 ceA1_25)) (KB2 w sc as) (.ok (.ret .none)) (tb1 w sc (listO d2 vs2 n2 sl2) p pF p0 A U I fv c r ts as 25 t tt vt ts2 as2 ceA1_25) ∧
    finL (tl1 w (listO d2 vs2 n2 sl2) A U I c r ts as t tt ts2 (tb1 w sc (listO d2 vs2 n2 sl2) p pF p0 A U I fv c r ts as 26 t tt vt ts2 as2 ceA1_26)) (tb1 w sc (listO d2 vs2 n2 sl2) p pF p0 A U I fv c r ts as 26 t tt vt ts2 as2 ceA1_26) = finR (tl1 w (listO d2 vs2 n2 sl2) A U I c r ts as t tt ts2 (tb1 w sc (listO d2 vs2 n2 sl2) p pF p0 A U I fv c r ts as 26 t tt vt ts2 as2 ceA1_26)) (KB2 w sc as) (.ok (.ret .none)) (tb1 w sc (listO d2 vs2 n2 sl2) p pF p0 A U I fv c r ts as 26 t tt vt ts2 as2 ceA1_26) ∧
    finL (tl1 w (listO d2 vs2 n2 sl2) A U I c r ts as t tt ts2 (tb1 w sc (listO d2 vs2 n2 sl2) p pF p0 A U I fv c r ts as 27 t tt vt ts2 as2 ceA1_27)) (tb1 w sc (listO d2 vs2 n2 sl2) p pF p0 A U I fv c r ts as 27 t tt vt ts2 as2 ceA1_27) = finR (tl1 w (listO d2 vs2 n2 sl2) A U I c r ts as t tt ts2 (tb1 w sc (listO d2 vs2 n2 sl2) p pF p0 A U I fv c r ts as 27 t tt vt ts2 as2 ceA1_27)) (KB2 w sc as) (.ok (.ret .none)) (tb1 w sc (listO d2 vs2 n2 sl2) p pF p0 A U I fv c r ts as 27 t tt vt ts2 as2 ceA1_27) ∧
    finL (tl1 w (listO d2 vs2 n2 sl2) A U I c r ts as t tt ts2 (tb1 w sc (listO d2 vs2 n2 sl2) p pF p0 A U I fv c r ts as 28 t tt vt ts2 as2 ceA1_28)) (tb1 w sc (listO d2 vs2 n2 sl2) p pF p0 A U I fv c r ts as 28 t tt vt ts2 as2 ceA1_28) = finR (tl1 w (listO d2 vs2 n2 sl2) A U I c r ts as t tt ts2 (tb1 w sc (listO d2 vs2 n2 sl2) p pF p0 A U I fv c r ts as 28 t tt vt ts2 as2 ceA1_28)) (KB2 w sc as) (.ok (.ret .none)) (tb1 w sc (listO d2 vs2 n2 sl2) p pF p0 A U I fv c r ts as 28 t tt vt ts2 as2 ceA1_28) ∧
    finL (tl1 w (listO d2 vs2 n2 sl2) A U I c r ts as t tt ts2 (tb1 w sc (listO d2 vs2 n2 sl2) p pF p0 A U I fv c r ts as 29 t tt vt ts2 as2 ceA1_29)) (tb1 w sc (listO d2 vs2 n2 sl2) p pF p0 A U I fv c r ts as 29 t tt vt ts2 as2 ceA1_29) = finR (tl1 w (listO d2 vs2 n2 sl2) A U I c r ts as t tt ts2 (tb1 w sc (listO d2 vs2 n2 sl2) p pF p0 A U I fv c r ts as 29 t tt vt ts2 as2 ceA1_29)) (KB2 w sc as) (.ok (.ret .none)) (tb1 w sc (listO d2 vs2 n2 sl2) p pF p0 A U I fv c r ts as 29 t tt vt ts2 as2 ceA1_29) ∧
    finL (tl1 w (listO d2 vs2 n2 sl2) A U I c r ts as t tt ts2 (tb1 w sc (listO d2 vs2 n2 sl2) p pF p0 A U I fv c r ts as 30 t tt vt ts2 as2 ceA1_30)) (tb1 w sc (listO d2 vs2 n2 sl2) p pF p0 A U I fv c r ts as 30 t tt vt ts2 as2 ceA1_30) = finR (tl1 w (listO d2 vs2 n2 sl2) A U I c r ts as t tt ts2 (tb1 w sc (listO d2 vs2 n2 sl2) p pF p0 A U I fv c r ts as 30 t tt vt ts2 as2 ceA1_30)) (KB2 w sc as) (.ok (.ret .none)) (tb1 w sc (listO d2 vs2 n2 sl2) p pF p0 A U I fv c r ts as 30 t tt vt ts2 as2 ceA1_30) ∧
    finL (tl1 w (listO d2 vs2 n2 sl2) A U I c r ts as t tt ts2 (tb1 w sc (listO d2 vs2 n2 sl2) p pF p0 A U I fv c r ts as 31 t tt vt ts2 as2 ceA1_31)) (tb1 w sc (listO d2 vs2 n2 sl2) p pF p0 A U I fv c r ts as 31 t tt vt ts2 as2 ceA1_31) = finR (tl1 w (listO d2 vs2 n2 sl2) A U I c r ts as t tt ts2 (tb1 w sc (listO d2 vs2 n2 sl2) p pF p0 A U I fv c r ts as 31 t tt vt ts2 as2 ceA1_31)) (KB2 w sc as) (.ok (.ret .none)) (tb1 w sc (listO d2 vs2 n2 sl2) p pF p0 A U I fv c r ts as 31 t tt vt ts2 as2 ceA1_31) ∧
    finL (tl1 w (listO d2 vs2 n2 sl2) A U I c r ts as t tt ts2 (tb1 w sc (listO d2 vs2 n2 sl2) p pF p0 A U I fv c r ts as 32 t tt vt ts2 as2 ceA1_32)) (tb1 w sc (listO d2 vs2 n2 sl2) p pF p0 A U I fv c r ts as 32 t tt vt ts2 as2 ceA1_32) = finR (tl1 w (listO d2 vs2 n2 sl2) A U I c r ts as t tt ts2 (tb1 w sc (listO d2 vs2 n2 sl2) p pF p0 A U I fv c r ts as 32 t tt vt ts2 as2 ceA1_32)) (KB2 w sc as) (.ok (.ret .none)) (tb1 w sc (listO d2 vs2 n2 sl2) p pF p0 A U I fv c r ts as 32 t tt vt ts2 as2 ceA1_32) ∧
    finL (tl1 w (listO d2 vs2 n2 sl2) A U I c r ts as t tt ts2 (tb1 w sc (listO d2 vs2 n2 sl2) p pF p0 A U I fv c r ts as 33 t tt vt ts2 as2 ceA1_33)) (tb1 w sc (listO d2 vs2 n2 sl2) p pF p0 A U I fv c r ts as 33 t tt vt ts2 as2 ceA1_33) = finR (tl1 w (listO d2 vs2 n2 sl2) A U I c r ts as t tt ts2 (tb1 w sc (listO d2 vs2 n2 sl2) p pF p0 A U I fv c r ts as 33 t tt vt ts2 as2 ceA1_33)) (KB2 w sc as) (.ok (.ret .none)) (tb1 w sc (listO d2 vs2 n2 sl2) p pF p0 A U I fv c r ts as 33 t tt vt ts2 as2 ceA1_33) ∧
    finL (tl1 w (listO d2 vs2 n2 sl2) A U I c r ts as t tt ts2 (tb1 w sc (listO d2 vs2 n2 sl2) p pF p0 A U I fv c r ts as 34 t tt vt ts2 as2 ceA1_34)) (tb1 w sc (listO d2 vs2 n2 sl2) p pF p0 A U I fv c r ts as 34 t tt vt ts2 as2 ceA1_34) = finR (tl1 w (listO d2 vs2 n2 sl2) A U I c r ts as t tt ts2 (tb1 w sc (listO d2 vs2 n2 sl2) p pF p0 A U I fv c r ts as 34 t tt vt ts2 as2 ceA1_34)) (KB2 w sc as) (.ok (.ret .none)) (tb1 w sc (listO d2 vs2 n2 sl2) p pF p0 A U I fv c r ts as 34 t tt vt ts2 as2 ceA1_34) :=
  ⟨by kernel_rfl, by kernel_rfl, by kernel_rfl, by kernel_rfl, by kernel_rfl, by kernel_rfl, by kernel_rfl, by kernel_rfl, by kernel_rfl, by kernel_rfl, by kernel_rfl⟩
set_option maxHeartbeats 0 in
theorem tb1_g3 (w : World) (sc : Obj) (d2 : Option Addr) (vs2 : Array Value) (n2 : Nat) (sl2 : Array (Option Value)) (p pF p0 : Pos) (A U : Nat → Nat) (I : Nat) (fv : Value) (c r : Nat) (ts as : Nat → Nat) (t tt vt : Nat) (ts2 as2 : Nat → Nat) :
    finL (tl1 w (listO d2 vs2 n2 sl2) A U I c r ts as t tt ts2 (tb1 w sc (listO d2 vs2 n2 sl2) p pF p0 A U I fv c r ts as 35 t tt vt ts2 as2 ceA1_35)) (tb1 w sc (listO d2 vs2 n2 sl2) p pF p0 A U I fv c r ts as 35 t tt vt ts2 as2 ceA1_35) = finR (tl1 w (listO d2 vs2 n2 sl2) A U I c r ts as t tt ts2 (tb1 w sc (listO d2 vs2 n2 sl2) p pF p0 A U I fv c r ts as 35 t tt vt ts2 as2 ceA1_35)) (KB2 w sc as) (.ok (.ret .none)) (tb1 w sc (listO d2 vs2 n2 sl2) p pF p0 A U I fv c r ts as 35 t tt vt ts2 as2 ceA1_35) ∧
    finL (tl1 w (listO d2 vs2 n2 sl2) A U I c r ts as t tt ts2 (tb1 w sc (listO d2 vs2 n2 sl2) p pF p0 A U I fv c r ts as 36 t tt vt ts2 as2 ceA1_36)) (tb1 w sc (listO d2 vs2 n2 sl2) p pF p0 A U I fv c r ts as 36 t tt vt ts2 as2 ceA1_36) = finR (tl1 w (listO d2 vs2 n2 sl2) A U I c r ts as t tt ts2 (tb1 w sc (listO d2 vs2 n2 sl2) p pF p0 A U I fv c r ts as 36 t tt vt ts2 as2 ceA1_36)) (KB2 w sc as) (.ok (.ret .none)) (tb1 w sc (listO d2 vs2 n2 sl2) p pF p0 A U I fv c r ts as 36 t tt vt ts2 as2 ceA1_36) ∧
    finL (tl1 w (listO d2 vs2 n2 sl2) A U I c r ts as t tt ts2 (tb1 w sc (listO d2 vs2 n2 sl2) p pF p0 A U I fv c r ts as 37 t tt vt ts2 as2 ceA1_37)) (tb1 w sc (listO d2 vs2 n2 sl2) p pF p0 A U I fv c r ts as 37 t tt vt ts2 as2 ceA1_37) = finR (tl1 w (listO d2 vs2 n2 sl2) A U I c r ts as t tt ts2 (tb1 w sc (listO d2 vs2 n2 sl2) p pF p0 A U I fv c r ts as 37 t tt vt ts2 as2 ceA1_37)) (KB2 w sc as) (.ok (.ret .none)) (tb1 w sc (listO d2 vs2 n2 sl2) p pF p0 A U I fv c r ts as 37 t tt vt ts2 as2 ceA1_37) ∧
    finL (tl1 w (listO d2 vs2 n2 sl2) A U I c r ts as t tt ts2 (tb1 w sc (listO d2 vs2 n2 sl2) p pF p0 A U I fv c r ts as 38 t tt vt ts2 as2 ceA1_38)) (tb1 w sc (listO d2 vs2 n2 sl2) p pF p0 A U I fv c r ts as 38 t tt vt ts2 as2 ceA1_38) = finR (tl1 w (listO d2 vs2 n2 sl2) A U I c r ts as t tt ts2 (tb1 w sc (listO d2 vs2 n2 sl2) p pF p0 A U I fv c r ts as 38 t tt vt ts2 as2 ceA1_38)) (KB2 w sc as) (.ok (.ret .none)) (tb1 w sc (listO d2 vs2 n2 sl2) p pF p0 A U I fv c r ts as 38 t tt vt ts2 as2 ceA1_38) ∧
    finL (tl1 w (listO d2 vs2 n2 sl2) A U I c r ts as t tt ts2 (tb1 w sc (listO d2 vs2 n2 sl2) p pF p0 A U I fv c r ts as 39 t tt vt ts2 as2 ceA1_39)) (tb1 w sc (listO d2 vs2 n2 sl2) p pF p0 A U I fv c r ts as 39 t tt vt ts2 as2 ceA1_39) = finR (tl1 w (listO d2 vs2 n2 sl2) A U I c r ts as t tt ts2 (tb1 w sc (listO d2 vs2 n2 sl2) p pF p0 A U I fv c r ts as 39 t tt vt ts2 as2 ceA1_39)) (KB2 w sc as) (.ok (.ret .none)) (tb1 w sc (listO d2 vs2 n2 sl2) p pF p0 A U I fv c r ts as 39 t tt vt ts2 as2 ceA1_39) ∧
    finL (tl1 w (listO d2 vs2 n2 sl2) A U I c r ts as t tt ts2 (tb1 w sc (listO d2 vs2 n2 sl2) p pF p0 A U I fv c r ts as 40 t tt vt ts2 as2 ceA1_40)) (tb1 w sc (listO d2 vs2 n2 sl2) p pF p0 A U I fv c r ts as 40 t tt vt ts2 as2 ceA1_40) = finR (tl1 w (listO d2 vs2 n2 sl2) A U I c r ts as t tt ts2 (tb1 w sc (listO d2 vs2 n2 sl2) p pF p0 A U I fv c r ts as 40 t tt vt ts2 as2 ceA1_40)) (KB2 w sc as) (.ok (.ret .none)) (tb1 w sc (listO d2 vs2 n2 sl2) p pF p0 A U I fv c r ts as 40 t tt vt ts2 as2 ceA1_40) ∧
    finL (tl1 w (listO d2 vs2 n2 sl2) A U I c r ts as t tt ts2 (tb1 w sc (listO d2 vs2 n2 sl2) p pF p0 A U I fv c r ts as 41 t tt vt ts2 as2 ceA1_41)) (tb1 w sc (listO d2 vs2 n2 sl2) p pF p0 A U I fv c r ts as 41 t tt vt ts2 as2 ceA1_41) = finR (tl1 w (listO d2 vs2 n2 sl2) A U I c r ts as t tt ts2 (tb1 w sc (listO d2 vs2 n2 sl2) p pF p0 A U I fv c r ts as 41 t tt vt ts2 as2 ceA1_41)) (KB2 w sc as) (.ok (.ret .none)) (tb1 w sc (listO d2 vs2 n2 sl2) p pF p0 A U I fv c r ts as 41 t tt vt ts2 as2 ceA1_41) ∧
    finL (tl1 w (listO d2 vs2 n2 sl2) A U I c r ts as t tt ts2 (tb1 w sc (listO d2 vs2 n2 sl2) p pF p0 A U I fv c r ts as 42 t tt vt ts2 as2 ceA1_42)) (tb1 w sc (listO d2 vs2 n2 sl2) p pF p0 A U I fv c r ts as 42 t tt vt ts2 as2 ceA1_42) = finR (tl1 w (listO d2 vs2 n2 sl2) A U I c r ts as t tt ts2 (tb1 w sc (listO d2 vs2 n2 sl2) p pF p0 A U I fv c r ts as 42 t tt vt ts2 as2 ceA1_42)) (KB2 w sc as) (.ok (.ret .none)) (tb1 w sc (listO d2 vs2 n2 sl2) p pF p0 A U I fv c r ts as 42 t tt vt ts2 as2 ceA1_42) ∧
    finL (tl1 w (listO d2 vs2 n2 sl2) A U I c r ts as t tt ts2 (tb1 w sc (listO d2 vs2 n2 sl2) p pF p0 A U I fv c r ts as 43 t tt vt ts2 as2 ceA1_43)) (tb1 w sc (listO d2 vs2 n2 sl2) p pF p0 A U I fv c r ts as 43 t tt vt ts2 as2 ceA1_43) = finR (tl1 w (listO d2 vs2 n2 sl2) A U I c r ts as t tt ts2 (tb1 w sc (listO d2 vs2 n2 sl2) p pF p0 A U I fv c r ts as 43 t tt vt ts2 as2 ceA1_43)) (KB2 w sc as) (.ok (.ret .none)) (tb1 w sc (listO d2 vs2 n2 sl2) p pF p0 A U I fv c r ts as 43 t tt vt ts2 as2 ceA1_43) ∧
    finL (tl1 w (listO d2 vs2 n2 sl2) A U I c r ts as t tt ts2 (tb1 w sc (listO d2 vs2 n2 sl2) p pF p0 A U I fv c r ts as 44 t tt vt ts2 as2 ceA1_44)) (tb1 w sc (listO d2 vs2 n2 sl2) p pF p0 A U I fv c r ts as 44 t tt vt ts2 as2 ceA1_44) = finR (tl1 w (listO d2 vs2 n2 sl2) A U I c r ts as t tt ts2 (tb1 w sc (listO d2 vs2 n2 sl2) p pF p0 A U I fv c r ts as 44 t tt vt ts2 as2 ceA1_44)) (KB2 w sc as) (.ok (.ret .none)) (tb1 w sc (listO d2 vs2 n2 sl2) p pF p0 A U I fv c r ts as 44 t tt vt ts2 as2 ceA1_44) ∧
    finL (tl1 w (listO d2 vs2 n2 sl2) A U I c r ts as t tt ts2 (tb1 w sc (listO d2 vs2 n2 sl2) p pF p0 A U I fv c r ts as 45 t tt vt ts2 as2 ceA1_45)) (tb1 w sc (listO d2 vs2 n2 sl2) p pF p0 A U I fv c r ts as 45 t tt vt ts2 as2 ceA1_45) = finR (tl1 w (listO d2 vs2 n2 sl2) A U I c r ts as t tt ts2 (tb1 w sc (listO d2 vs2 n2 sl2) p pF p0 A U I fv c r ts as 45 t tt vt ts2 as2 ceA1_45)) (KB2 w sc as) (.ok (.ret .none)) (tb1 w sc (listO d2 vs2 n2 sl2) p pF p0 A U I fv c r ts as 45 t tt vt ts2 as2 ceA1_45) :=
  ⟨by kernel_rfl, by kernel_rfl, by kernel_rfl, by kernel_rfl, by kernel_rfl, by kernel_rfl, by kernel_rfl, by kernel_rfl, by kernel_rfl, by kernel_rfl, by kernel_rfl⟩

end Mine
end
section
open PySem PySem.W PySem.W.X
open Sem (wp)
set_option maxRecDepth 1000000
namespace Mine
noncomputable def ceA2 : List Nat := [220,0,220,14,220,220,220,1,1,0,1,0,0,0,0,3002,3002,0,0,0,0,0,0,0,0,0,0,0,0,0,0,0,0,0,0,0,0,0,0,0,0,0,0,0,0,0,0,0,0,0,0,0,0,0,0,0,0,0,0,0,0,0,0,0,0,0,0,0,0,0,0,0,0,0,0,0,0,0,0,0,0,0,0,0,0,0,0,0,0,0,0,0,0,0,0,0,0,0,0,0,1,0,0,0,0,3053,3053,0,0,0,0,0,0,0,0,0,0,0,0,0,0,0,0,0,0,0,0,0,0,0,0,0,0,0,0,0,0,0,0,0,0,0,0,0,0,0,0,0,0,0,0,0,0,0,0,0,0,0,0,0,0,0,0,0,0,0,0,0,0,0,0,0,0,0,0,0,0,0,0,0,0,0,0,0,0,0,0,0,0,0,0,0,0,0,3051,3105,3051,0,3051,0,3105,3051,3105,0,1,0,0,0,0,3108,3108,0,0,0,0,0,0,0,0,0,0,0,0,0,0,0,0,0,0,0,0,0,0,0,0,0,0,0,0,0,0,0,0,0,0,0,0,0,0,0,0,0,0,0,0,0,0,0,0,0,0,0,0,0,0,0,0,0,0,0,0,0,0,0,0,0,0,0,3106,3148,3106,0,3106,0,3148,3106,3148,1,1,1,0,1,0,0,1,0,0,3149,0,3149,0,3149,0,2]
noncomputable def ta2 (w : World) (sc : Obj) (p pF p0 : Pos) (A B : Nat → Nat) (I : Nat) (l : List Ent) (ts as : Nat → Nat) : Out := lawEv w 30000 (trA A I) [] (gF p pF A I) p0 [] (KB2 w sc B) (mkT l) 3000 ts as ceA2 []
noncomputable def tb2 (w : World) (sc : Obj) (p pF p0 : Pos) (A B : Nat → Nat) (I : Nat) (l : List Ent) (ts as : Nat → Nat) (v t tt vt : Nat) (ts2 as2 : Nat → Nat) (ce : List Nat) : Out := res (fun k L g p K kt T m acc => lawEv w 30000 (k (.ok (.ret (.int (.ofNat v) vt)))) L g p K (KB2 w sc B) (T.put 40 3 (A 3 + 268, feedO A (.int (.ofNat t) tt))) m ts2 as2 ce acc) (ta2 w sc p pF p0 A B I l ts as)
set_option maxHeartbeats 0 in
theorem ta2_cut (w : World) (sc : Obj) (d2 : Option Addr) (vs2 : Array Value) (n2 : Nat) (sl2 : Array (Option Value)) (p pF p0 : Pos) (A U B U2 : Nat → Nat) (I : Nat) (fv : Value) (c r k1 k2 k3 k4 : Nat) (vt ve vc vd : Value) (ts as : Nat → Nat) : cutL (feedE A (listO d2 vs2 n2 sl2) fv) (ta2 w sc p pF p0 A B I (stL2 w.params A U B U2 I (listO d2 vs2 n2 sl2) fv c (r + 1) k1 k2 k3 k4 vt ve vc vd) ts as) = some (nextC A 46 (tokOf (ta2 w sc p pF p0 A B I (stL2 w.params A U B U2 I (listO d2 vs2 n2 sl2) fv c (r + 1) k1 k2 k3 k4 vt ve vc vd) ts as)), none, gF p pF A I, KB2 w sc B, (feedE A (listO d2 vs2 n2 sl2) fv).map fun e => some e.2) := by
  kernel_rfl
noncomputable def ceA2_0 : List Nat := [3149,3149,3149,0,3149,0,3149,3005,3005,3005,0,3005,0,3150,3150,0,3150,0,3150,3150,3005,3150,3150,3150,0,3150,0,3150,3150,3005,3150,3150,3150,0,3150,0,3150,3150,3005,3150,3150,3152,1,1,1,1,0,1,0,0,0,0,3153,3153,0,0,3153,3004,0,3004,1009,0,0,0,3002,0,0,0,0,3155,3155,3155,3155,3155,3155,3155,3155,3155,3155,0,0,3155,0,0,0,0,0,0,0,0,0,0,0,0,0,0,0,0,0,0,0,0,0,0,0,0,0,0,0,0,0,0,0,0,0,3157,0,3157,0,0,0,0,0,0,0,0,3158,3158,3158,3158,3158,3158,0,0,0,0,0,0,0,3158,0,0,0,0,0,0,3159,3159,0,3159,0,0,3157,3157,0,3159,3159,3159,3159,3159,3159,3159,3159,0,3159,0,3159,3159,3159,0,0,0,0,3157,0,3158,3160,0,3160,3157,0,0,3157,3157,3157,3158,3158,3157,0,0,0,0,3157,0,0,3157,0,3157,0,0,0,3157,0,3157,3162,3162,3162,3158,3158,3157,0,0,0,0,3157,0,0,3157,0,3157,0,0,0,3157,0,3162,3162,3162,3157,3157,0,3157,3157,0,3157,3157,3155,3155,3154,3154,3153,3153,1,3157,3157,3157,3163,3163,3157,3163,3163,3163,3154,3157,3157,3157,3164,3164,3157,3164,3164,3164,3153,3157,3157,3157,3165,3165,0,0,0,0,0,3157,0,0,3157,3165,3165,3153,3153,3153,3157,0,0,0,0,0,0,0,3157,0,0,3157,0,0,0,3157,3157,0,3162,3153,3153,3153,3153,1,0,0]
noncomputable def ceA2_1 : List Nat := [3149,3149,3149,0,3149,0,3149,3008,3008,3008,0,3008,0,3150,3150,0,3150,0,3150,3150,3008,3150,3150,3150,0,3150,0,3150,3150,3008,3150,3150,3150,0,3150,0,3150,3150,3008,3150,3150,3152,1,1,1,1,0,1,0,0,0,0,3153,3153,0,0,3153,3007,0,3007,1018,0,0,0,3002,0,0,0,0,3155,3155,3155,3155,3155,3155,3155,3155,3155,3155,0,0,3155,0,0,0,0,0,0,0,0,0,0,0,0,0,0,0,0,0,0,0,0,0,0,0,0,0,0,0,0,0,0,0,0,0,0,0,0,3157,0,3157,0,0,0,0,0,0,0,0,3158,3158,3158,3158,3158,3158,0,0,0,0,0,0,0,3158,0,0,0,0,0,0,3159,3159,0,3159,0,0,3157,3157,0,3159,3159,3159,3159,3159,3159,3159,3159,0,3159,0,3159,3159,3159,0,0,0,0,3157,0,3158,3160,0,3160,3157,0,0,3157,3157,3157,3158,3158,3157,0,0,0,0,3157,0,0,3157,0,3157,0,0,0,3157,0,3157,3162,3162,3162,3158,3158,3157,0,0,0,0,3157,0,0,3157,0,3157,0,0,0,3157,0,3162,3162,3162,3157,3157,0,3157,3157,0,3157,3157,3155,3155,3154,3154,3153,3153,1,3157,3157,3157,3163,3163,3157,3163,3163,3163,3154,3157,3157,3157,3164,3164,3157,3164,3164,3164,3153,3157,3157,3157,3165,3165,0,0,0,0,0,3157,0,0,3157,3165,3165,3153,3153,3153,3157,0,0,0,0,0,0,0,3157,0,0,3157,0,0,0,3157,3157,0,3162,3153,3153,3153,3153,1,0,0]
noncomputable def ceA2_2 : List Nat := [3149,3149,3149,0,3149,0,3149,3011,3011,3011,0,3011,0,3150,3150,0,3150,0,3150,3150,3011,3150,3150,3150,0,3150,0,3150,3150,3011,3150,3150,3150,0,3150,0,3150,3150,3011,3150,3150,3152,1,1,1,1,0,1,0,0,0,0,3153,3153,0,0,3153,3010,0,3010,1027,0,0,0,3002,0,0,0,0,3155,3155,3155,3155,3155,3155,3155,3155,3155,3155,0,0,3155,0,0,0,0,0,3155,3155,7,0,0,0,0,7,0,0,0,7,7,0,6,16,16,0,16,5,16,0,0,0,0,0,0,0,0,0,0,0,0,0,0,0,0,0,0,0,0,0,0,0,0,0,0,0,0,0,0,0,3157,0,3157,0,0,0,0,0,0,0,0,3158,3158,3158,3158,3158,3158,0,0,0,0,0,0,0,3158,0,0,0,0,0,0,3159,3159,0,3159,0,0,3157,3157,0,3159,3159,3159,3159,3159,3159,3159,3159,0,3159,0,3159,3159,3159,0,0,0,0,3157,0,3158,3160,0,3160,3157,0,0,3157,3157,3157,3158,3158,3157,0,0,0,0,3157,0,0,3157,0,3157,0,0,0,3157,0,3157,3162,3162,3162,3158,3158,3157,0,0,0,0,3157,0,0,3157,0,3157,0,0,0,3157,0,3162,3162,3162,3157,3157,0,3157,3157,0,3157,3157,3155,3155,3154,3154,3153,3153,1,3157,3157,3157,3163,3163,3157,3163,3163,3163,3154,3157,3157,3157,3164,3164,3157,3164,3164,3164,3153,3157,3157,3157,3165,3165,0,0,0,0,0,3157,0,0,3157,3165,3165,3153,3153,3153,3157,0,0,0,0,0,0,0,3157,0,0,3157,0,0,0,3157,3157,0,3162,3153,3153,3153,3153,1,0,0]
noncomputable def ceA2_3 : List Nat := [3149,3149,3149,0,3149,0,3149,3014,3014,3014,0,3014,0,3150,3150,0,3150,0,3150,3150,3014,3150,3150,3150,0,3150,0,3150,3150,3014,3150,3150,3150,0,3150,0,3150,3150,3014,3150,3150,3152,1,1,1,1,0,1,0,0,0,0,3153,3153,0,0,3153,3013,0,3013,1036,0,0,0,3002,0,0,0,0,3155,3155,3155,3155,3155,3155,3155,3155,3155,3155,0,0,3155,0,0,0,0,0,3155,3155,7,0,0,0,0,7,0,0,0,7,7,0,6,16,16,0,16,0,0,0,16,0,3155,3155,3155,0,0,0,0,3156,3156,3156,3156,3156,3156,0,0,3156,7,0,0,0,0,7,0,0,0,7,7,0,6,16,16,0,16,0,16,16,16,3157,0,3157,0,3157,0,3157,3157,16,16,3157,3157,3157,3157,3157,3156,3156,3156,7,0,0,0,0,7,0,0,0,7,7,0,6,3156,16,16,16,0,16,4,16,0,3156,3156,3156,34,34,34,0,34,1,34,3156,0,0,3156,3158,3158,0,3158,8,3158,0,0,0,0,0,0,0,0,0,0,0,0,0,0,0,0,0,0,0,0,0,0,0,0,0,0,0,0,0,0,0,3160,0,3160,0,0,0,0,0,0,0,0,3161,3161,3161,3161,3161,3161,0,0,0,0,0,0,0,3161,0,0,0,0,0,0,3162,3162,0,3162,0,0,3160,3160,0,3162,3162,3162,3162,3162,3162,3162,3162,0,3162,0,3162,3162,3162,0,0,0,0,3160,0,3161,3163,0,3163,3160,0,0,3160,3160,3160,3161,3161,3160,0,0,0,0,3160,0,0,3160,0,3160,0,0,0,3160,0,3160,3165,3165,3165,3161,3161,3160,0,0,0,0,3160,0,0,3160,0,3160,0,0,0,3160,0,3165,3165,3165,3160,3160,0,3160,3160,0,3160,3160,3155,3155,3154,3154,3153,3153,1,3160,3160,3160,3166,3166,3160,3166,3166,3166,3154,3160,3160,3160,3167,3167,3160,3167,3167,3167,3153,3160,3160,3160,3168,3168,0,0,0,0,0,3160,0,0,3160,3168,3168,3153,3153,3153,3160,0,0,0,0,0,0,0,3160,0,0,3160,0,0,0,3160,3160,0,3165,3153,3153,3153,3153,1,0,0]
noncomputable def ceA2_4 : List Nat := [3149,3149,3149,0,3149,0,3149,3017,3017,3017,0,3017,0,3150,3150,0,3150,0,3150,3150,3017,3150,3150,3150,0,3150,0,3150,3150,3017,3150,3150,3150,0,3150,0,3150,3150,3017,3150,3150,3152,1,1,1,1,0,1,0,0,0,0,3153,3153,0,0,3153,3016,0,3016,1045,0,0,0,3002,0,0,0,0,3155,3155,3155,3155,3155,3155,3155,3155,3155,3155,0,0,3155,0,0,0,0,0,3155,3155,7,0,0,0,0,7,0,0,0,7,7,0,6,16,16,0,16,0,0,0,16,0,3155,3155,3155,0,0,0,0,3156,3156,3156,3156,3156,3156,0,0,3156,7,0,0,0,0,7,0,0,0,7,7,0,6,16,16,0,16,0,16,16,16,3157,0,3157,0,3157,0,3157,3157,16,16,3157,3157,3157,3157,3157,3156,3156,3156,7,0,0,0,0,7,0,0,0,7,7,0,6,3156,16,16,16,0,16,4,16,0,3156,3156,3156,34,34,34,0,34,1,34,3156,0,0,0,3157,0,3157,0,3157,3157,16,16,3157,3157,3157,3157,3157,3156,3156,3156,7,0,0,0,0,7,0,0,0,7,7,0,6,3156,16,16,16,0,16,4,16,0,3156,3156,3156,47,47,47,0,47,1,47,3156,0,0,3156,3158,3158,0,3158,8,3158,3156,47,47,47,0,47,1,47,3159,3159,0,3159,8,3159,0,0,0,0,0,0,0,0,0,0,0,0,0,0,0,0,0,0,0,0,0,0,0,0,0,0,0,0,0,0,0,3161,0,3161,0,0,0,0,0,0,0,0,3162,3162,3162,3162,3162,3162,0,0,0,0,0,0,0,3162,0,0,0,0,0,0,3163,3163,0,3163,0,0,3161,3161,0,3163,3163,3163,3163,3163,3163,3163,3163,0,3163,0,3163,3163,3163,0,0,0,0,3161,0,3162,3164,0,3164,3161,0,0,3161,3161,3161,3162,3162,3161,0,0,0,0,3161,0,0,3161,0,3161,0,0,0,3161,0,3161,3166,3166,3166,3162,3162,3161,0,0,0,0,3161,0,0,3161,0,3161,0,0,0,3161,0,3166,3166,3166,3161,3161,0,3161,3161,0,3161,3161,3155,3155,3154,3154,3153,3153,1,3161,3161,3161,3167,3167,3161,3167,3167,3167,3154,3161,3161,3161,3168,3168,3161,3168,3168,3168,3153,3161,3161,3161,3169,3169,0,0,0,0,0,3161,0,0,3161,3169,3169,3153,3153,3153,3161,0,0,0,0,0,0,0,3161,0,0,3161,0,0,0,3161,3161,0,3166,3153,3153,3153,3153,1,0,0]
noncomputable def ceA2_5 : List Nat := [3149,3149,3149,0,3149,0,3149,3020,3020,3020,0,3020,0,3150,3150,0,3150,0,3150,3150,3020,3150,3150,3150,0,3150,0,3150,3150,3020,3150,3150,3150,0,3150,0,3150,3150,3020,3150,3150,3152,1,1,1,1,0,1,0,0,0,0,3153,3153,0,0,3153,3019,0,3019,1054,0,0,0,3002,0,0,0,0,3155,3155,3155,3155,3155,3155,3155,3155,3155,3155,0,0,3155,0,0,0,0,0,3155,3155,7,0,0,0,0,7,0,0,0,7,7,0,6,16,16,0,16,0,0,0,16,0,3155,3155,3155,0,0,0,0,3156,3156,3156,3156,3156,3156,0,0,3156,7,0,0,0,0,7,0,0,0,7,7,0,6,16,16,0,16,0,16,16,16,3157,0,3157,0,3157,0,3157,3157,16,16,3157,3157,3157,3157,3157,3156,3156,3156,7,0,0,0,0,7,0,0,0,7,7,0,6,3156,16,16,16,0,16,4,16,0,3156,3156,3156,34,34,34,0,34,1,34,3156,0,0,0,3157,0,3157,0,3157,3157,16,16,3157,3157,3157,3157,3157,3156,3156,3156,7,0,0,0,0,7,0,0,0,7,7,0,6,3156,16,16,16,0,16,4,16,0,3156,3156,3156,47,47,47,0,47,1,47,3156,0,0,0,3157,0,3157,0,3157,3157,16,16,3157,3157,3157,3157,3157,3156,3156,3156,7,0,0,0,0,7,0,0,0,7,7,0,6,3156,16,16,16,0,16,4,16,0,3156,3156,3156,60,60,60,0,60,1,60,3156,0,0,0,3157,0,3157,0,3157,3157,16,16,3157,3157,3157,3159,0,0,3155,0,0,0,0,3160,3160,0,0,0,0,3160,0,0,0,0,0,0,0,0,0,0,0,0,0,0,0,0,0,0,0,0,0,0,0,0,0,0,0,0,0,0,0,0,0,0,0,0,0,3162,0,3162,0,0,0,0,0,0,0,0,3163,3163,3163,3163,3163,3163,0,0,0,0,0,0,0,3163,0,0,0,0,0,0,3164,3164,0,3164,0,0,3162,3162,0,3164,3164,3164,3164,3164,3164,3164,3164,0,3164,0,3164,3164,3164,0,0,0,0,3162,0,3163,3165,0,3165,3162,0,0,3162,3162,3162,3163,3163,3162,0,0,0,0,3162,0,0,3162,0,3162,0,0,0,3162,0,3162,3167,3167,3167,3163,3163,3162,0,0,0,0,3162,0,0,3162,0,3162,0,0,0,3162,0,3167,3167,3167,3162,3162,0,3162,3162,0,3162,3162,3160,3160,3155,3155,3154,3154,3153,3153,1,3162,3162,3162,3168,3168,3162,3168,3168,3168,3155,3162,3162,3162,3169,3169,3162,3169,3169,3169,3154,3162,3162,3162,3170,3170,3162,3170,3170,3170,3153,3162,3162,3162,3171,3171,0,0,0,0,0,3162,0,0,3162,3171,3171,3153,3153,3153,3162,0,0,0,0,0,0,0,3162,0,0,3162,0,0,0,3162,3162,0,3167,3153,3153,3153,3153,1,0,0]
noncomputable def ceA2_6 : List Nat := [3149,3149,3149,0,3149,0,3149,3023,3023,3023,0,3023,0,3150,3150,0,3150,0,3150,3150,3023,3150,3150,3150,0,3150,0,3150,3150,3023,3150,3150,3150,0,3150,0,3150,3150,3023,3150,3150,3152,1,1,1,1,0,1,0,0,0,0,3153,3153,0,0,3153,3022,0,3022,1063,0,0,0,3002,0,0,0,0,3155,3155,3155,3155,3155,3155,3155,3155,3155,3155,0,0,3155,0,0,0,0,0,3155,3155,7,0,0,0,0,7,0,0,0,7,7,0,6,16,16,0,16,0,0,0,16,0,3155,3155,3155,0,0,0,0,3156,3156,3156,3156,3156,3156,0,0,3156,7,0,0,0,0,7,0,0,0,7,7,0,6,16,16,0,16,0,16,16,16,3157,0,3157,0,3157,0,3157,3157,16,16,3157,3157,3157,3157,3157,3156,3156,3156,7,0,0,0,0,7,0,0,0,7,7,0,6,3156,16,16,16,0,16,4,16,0,3156,3156,3156,34,34,34,0,34,1,34,3156,0,0,0,3157,0,3157,0,3157,3157,16,16,3157,3157,3157,3157,3157,3156,3156,3156,7,0,0,0,0,7,0,0,0,7,7,0,6,3156,16,16,16,0,16,4,16,0,3156,3156,3156,47,47,47,0,47,1,47,3156,0,0,0,3157,0,3157,0,3157,3157,16,16,3157,3157,3157,3157,3157,3156,3156,3156,7,0,0,0,0,7,0,0,0,7,7,0,6,3156,16,16,16,0,16,4,16,0,3156,3156,3156,60,60,60,0,60,1,60,3156,0,0,0,3157,0,3157,0,3157,3157,16,16,3157,3157,3157,3159,0,0,3155,0,0,0,0,3160,3160,0,0,0,0,3160,0,0,0,0,0,0,0,0,0,3160,0,0,3161,4,12,3161,0,3161,0,3161,0,3161,3161,3161,3161,3163,3163,0,0,3163,0,0,0,0,0,0,3163,0,0,0,0,0,3161,0,3161,0,3161,3161,3161,3161,3163,3163,0,0,3163,0,0,0,0,0,0,3163,0,0,0,0,0,3161,0,3161,0,3161,3161,3161,3161,3163,3163,0,0,3163,0,0,0,0,0,0,3163,0,0,0,0,0,3161,0,3161,0,3161,3161,3161,3161,3165,3163,3163,3163,3162,3166,3162,0,3162,11,3162,3166,3160,3155,0,0,3155,0,0,0,0,0,0,0,0,0,0,0,0,0,0,0,0,0,0,0,0,0,0,0,0,0,0,0,0,0,0,0,0,0,3168,0,3168,0,0,0,0,0,0,0,0,3169,3169,3169,3169,3169,3169,0,0,0,0,0,0,0,3169,0,0,0,0,0,0,3170,3170,0,3170,0,0,3168,3168,0,3170,3170,3170,3170,3170,3170,3170,3170,0,3170,0,3170,3170,3170,0,0,0,0,3168,0,3169,3171,0,3171,3168,0,0,3168,3168,3168,3169,3169,3168,0,0,0,0,3168,0,0,3168,0,3168,0,0,0,3168,0,3168,3173,3173,3173,3169,3169,3168,0,0,0,0,3168,0,0,3168,0,3168,0,0,0,3168,0,3173,3173,3173,3168,3168,0,3168,3168,0,3168,3168,3155,3155,3154,3154,3153,3153,1,3168,3168,3168,3174,3174,3168,3174,3174,3174,3154,3168,3168,3168,3175,3175,3168,3175,3175,3175,3153,3168,3168,3168,3176,3176,0,0,0,0,0,3168,0,0,3168,3176,3176,3153,3153,3153,3168,0,0,0,0,0,0,0,3168,0,0,3168,0,0,0,3168,3168,0,3173,3153,3153,3153,3153,1,0,0]
noncomputable def ceA2_7 : List Nat := [3149,3149,3149,0,3149,0,3149,3026,3026,3026,0,3026,0,3150,3150,0,3150,0,3150,3150,3026,3150,3150,3150,0,3150,0,3150,3150,3026,3150,3150,3150,0,3150,0,3150,3150,3026,3150,3150,3152,1,1,1,1,0,1,0,0,0,0,3153,3153,0,0,3153,3025,0,3025,1072,0,0,0,3002,0,0,0,0,3155,3155,3155,3155,3155,3155,3155,3155,3155,3155,0,0,3155,0,0,0,0,0,3155,3155,7,0,0,0,0,7,0,0,0,7,7,0,6,16,16,0,16,0,0,0,16,0,3155,3155,3155,0,0,0,0,3156,3156,3156,3156,3156,3156,0,0,3156,7,0,0,0,0,7,0,0,0,7,7,0,6,16,16,0,16,0,16,16,16,3157,0,3157,0,3157,0,3157,3157,16,16,3157,3157,3157,3157,3157,3156,3156,3156,7,0,0,0,0,7,0,0,0,7,7,0,6,3156,16,16,16,0,16,4,16,0,3156,3156,3156,34,34,34,0,34,1,34,3156,0,0,0,3157,0,3157,0,3157,3157,16,16,3157,3157,3157,3157,3157,3156,3156,3156,7,0,0,0,0,7,0,0,0,7,7,0,6,3156,16,16,16,0,16,4,16,0,3156,3156,3156,47,47,47,0,47,1,47,3156,0,0,0,3157,0,3157,0,3157,3157,16,16,3157,3157,3157,3157,3157,3156,3156,3156,7,0,0,0,0,7,0,0,0,7,7,0,6,3156,16,16,16,0,16,4,16,0,3156,3156,3156,60,60,60,0,60,1,60,3156,0,0,0,3157,0,3157,0,3157,3157,16,16,3157,3157,3157,3159,0,0,3155,0,0,0,0,3160,3160,0,0,0,0,3160,0,0,0,0,0,0,0,0,0,3160,0,0,3161,4,12,3161,0,3161,0,3161,0,3161,3161,3161,3161,3163,3163,0,0,3163,0,0,0,0,0,0,3163,0,0,0,0,0,3161,0,3161,0,3161,3161,3161,3161,3163,3163,0,0,3163,0,0,0,0,0,0,3163,0,0,0,0,0,3161,0,3161,0,3161,3161,3161,3161,3163,3163,0,0,3163,0,0,0,0,0,0,3163,0,0,0,0,0,3161,0,3161,0,3161,3161,3161,3161,3165,3163,3163,3163,3162,3166,3162,0,3162,11,3162,3166,3160,3155,0,0,3155,0,0,0,0,0,0,0,0,0,0,0,0,0,0,0,0,0,0,0,0,0,0,0,0,0,0,0,0,0,0,0,0,0,0,0,0,3168,0,3168,0,0,0,0,0,0,0,0,3169,3169,3169,3169,3169,3169,0,0,0,0,0,0,0,3169,0,0,0,0,0,0,3170,3170,0,3170,0,0,3168,3168,0,3170,3170,3170,3170,3170,3170,3170,3170,0,3170,0,3170,3170,3170,0,0,0,0,3168,0,3169,3171,0,3171,3168,0,0,3168,3168,3168,3169,3169,3168,0,0,0,0,3168,0,0,3168,0,3168,0,0,0,3168,0,3168,3173,3173,3173,3169,3169,3168,0,0,0,0,3168,0,0,3168,0,3168,0,0,0,3168,0,3173,3173,3173,3168,3168,0,3168,3168,0,3168,3168,3155,3155,3154,3154,3153,3153,1,3168,3168,3168,3174,3174,3168,3174,3174,3174,3154,3168,3168,3168,3175,3175,3168,3175,3175,3175,3153,3168,3168,3168,3176,3176,0,0,0,0,0,3168,0,0,3168,3176,3176,3153,3153,3153,3168,0,0,0,0,0,0,0,3168,0,0,3168,0,0,0,3168,3168,0,3173,3153,3153,3153,3153,1,0,0]
noncomputable def ceA2_8 : List Nat := [3149,3149,3149,0,3149,0,3149,3029,3029,3029,0,3029,0,3150,3150,0,3150,0,3150,3150,3029,3150,3150,3150,0,3150,0,3150,3150,3029,3150,3150,3150,0,3150,0,3150,3150,3029,3150,3150,3152,1,1,1,1,0,1,0,0,0,0,3153,3153,0,0,3153,3028,0,3028,1081,0,0,0,3002,0,0,0,0,3155,3155,3155,3155,3155,3155,3155,3155,3155,3155,0,0,3155,0,0,0,0,0,3155,3155,7,0,0,0,0,7,0,0,0,7,7,0,6,16,16,0,16,0,0,0,16,0,3155,3155,3155,0,0,0,0,3156,3156,3156,3156,3156,3156,0,0,3156,7,0,0,0,0,7,0,0,0,7,7,0,6,16,16,0,16,0,16,16,16,3157,0,3157,0,3157,0,3157,3157,16,16,3157,3157,3157,3157,3157,3156,3156,3156,7,0,0,0,0,7,0,0,0,7,7,0,6,3156,16,16,16,0,16,4,16,0,3156,3156,3156,34,34,34,0,34,1,34,3156,0,0,0,3157,0,3157,0,3157,3157,16,16,3157,3157,3157,3157,3157,3156,3156,3156,7,0,0,0,0,7,0,0,0,7,7,0,6,3156,16,16,16,0,16,4,16,0,3156,3156,3156,47,47,47,0,47,1,47,3156,0,0,0,3157,0,3157,0,3157,3157,16,16,3157,3157,3157,3157,3157,3156,3156,3156,7,0,0,0,0,7,0,0,0,7,7,0,6,3156,16,16,16,0,16,4,16,0,3156,3156,3156,60,60,60,0,60,1,60,3156,0,0,0,3157,0,3157,0,3157,3157,16,16,3157,3157,3157,3159,0,0,3155,0,0,0,0,3160,3160,0,0,0,0,3160,0,0,0,0,0,0,0,0,0,3160,0,0,3161,4,12,3161,0,3161,0,3161,0,3161,3161,3161,3161,3163,3163,0,0,3163,0,0,0,0,0,0,3163,0,0,0,0,0,3161,0,3161,0,3161,3161,3161,3161,3163,3163,0,0,3163,0,0,0,0,3163,0,3162,0,3162,3162,3162,0,3161,0,3161,0,3161,3161,3161,3161,3163,3163,0,0,3163,0,0,0,0,0,0,3163,0,0,0,0,0,3161,0,3161,0,3161,3161,3161,3161,3165,3163,3163,3163,3162,3166,3162,0,3162,11,3162,3166,0,0,0,0,0,0,0,0,0,0,0,0,0,0,0,0,0,0,0,0,0,0,0,0,0,0,0,0,0,0,0,3168,0,3168,0,0,0,0,0,0,0,0,3169,3169,3169,3169,3169,3169,0,0,0,0,0,0,0,3169,0,0,0,0,0,0,3170,3170,0,3170,0,0,3168,3168,0,3170,3170,3170,3170,3170,3170,3170,3170,0,3170,0,3170,3170,3170,0,0,0,0,3168,0,3169,3171,0,3171,3168,0,0,3168,3168,3168,3169,3169,3168,0,0,0,0,3168,0,0,3168,0,3168,0,0,0,3168,0,3168,3173,3173,3173,3169,3169,3168,0,0,0,0,3168,0,0,3168,0,3168,0,0,0,3168,0,3173,3173,3173,3168,3168,0,3168,3168,0,3168,3168,3160,3160,3155,3155,3154,3154,3153,3153,1,3168,3168,3168,3174,3174,3168,3174,3174,3174,3155,3168,3168,3168,3175,3175,3168,3175,3175,3175,3154,3168,3168,3168,3176,3176,3168,3176,3176,3176,3153,3168,3168,3168,3177,3177,0,0,0,0,0,3168,0,0,3168,3177,3177,3153,3153,3153,3168,0,0,0,0,0,0,0,3168,0,0,3168,0,0,0,3168,3168,0,3173,3153,3153,3153,3153,1,0,0]
noncomputable def ceA2_9 : List Nat := [3149,3149,3149,0,3149,0,3149,3032,3032,3032,0,3032,0,3150,3150,0,3150,0,3150,3150,3032,3150,3150,3150,0,3150,0,3150,3150,3032,3150,3150,3150,0,3150,0,3150,3150,3032,3150,3150,3152,1,1,1,1,0,1,0,0,0,0,3153,3153,0,0,3153,3031,0,3031,1090,0,0,0,3002,0,0,0,0,0,0,0,0,3155,3155,3155,3155,3155,3155,3155,3155,3155,3155,0,0,3155,0,0,0,0,0,3155,3155,7,0,0,0,0,7,0,0,0,7,7,0,6,16,16,0,16,0,0,0,16,0,3155,3155,3155,0,0,0,0,3156,3156,3156,3156,3156,3156,0,0,3156,7,0,0,0,0,7,0,0,0,7,7,0,6,16,16,0,16,0,16,16,16,3157,0,3157,0,3157,0,3157,3157,16,16,3157,3157,3157,3157,3157,3156,3156,3156,7,0,0,0,0,7,0,0,0,7,7,0,6,3156,16,16,16,0,16,4,16,0,3156,3156,3156,34,34,34,0,34,1,34,3156,0,0,0,3157,0,3157,0,3157,3157,16,16,3157,3157,3157,3157,3157,3156,3156,3156,7,0,0,0,0,7,0,0,0,7,7,0,6,3156,16,16,16,0,16,4,16,0,3156,3156,3156,47,47,47,0,47,1,47,3156,0,0,0,3157,0,3157,0,3157,3157,16,16,3157,3157,3157,3157,3157,3156,3156,3156,7,0,0,0,0,7,0,0,0,7,7,0,6,3156,16,16,16,0,16,4,16,0,3156,3156,3156,60,60,60,0,60,1,60,3156,0,0,0,3157,0,3157,0,3157,3157,16,16,3157,3157,3157,3159,0,0,3155,0,0,0,0,3160,3160,0,0,0,0,3160,0,0,0,0,0,0,0,0,0,0,0,0,0,0,0,0,0,0,0,0,0,0,0,0,0,0,0,0,0,0,0,0,0,0,0,0,0,0,0,0,3162,0,3162,0,0,0,0,0,0,0,0,3163,3163,3163,3163,3163,3163,0,0,0,0,0,0,0,3163,0,0,0,0,0,0,3164,3164,0,3164,0,0,3162,3162,0,3164,3164,3164,3164,3164,3164,3164,3164,0,3164,0,3164,3164,3164,0,0,0,0,3162,0,3163,3165,0,3165,3162,0,0,3162,3162,3162,3163,3163,3162,0,0,0,0,3162,0,0,3162,0,3162,0,0,0,3162,0,3162,3167,3167,3167,3163,3163,3162,0,0,0,0,3162,0,0,3162,0,3162,0,0,0,3162,0,3167,3167,3167,3162,3162,0,3162,3162,0,3162,3162,3160,3160,3155,3155,3154,3154,3153,3153,1,3162,3162,3162,3168,3168,3162,3168,3168,3168,3155,3162,3162,3162,3169,3169,3162,3169,3169,3169,3154,3162,3162,3162,3170,3170,3162,3170,3170,3170,3153,3162,3162,3162,3171,3171,0,0,0,0,0,3162,0,0,3162,3171,3171,3153,3153,3153,3162,0,0,0,0,0,0,0,3162,0,0,3162,0,0,0,3162,3162,0,3167,3153,3153,3153,3153,1,0,0]
noncomputable def ceA2_10 : List Nat := [3149,3149,3149,0,3149,0,3149,3035,3035,3035,0,3035,0,3150,3150,0,3150,0,3150,3150,3035,3150,3150,3150,0,3150,0,3150,3150,3035,3150,3150,3150,0,3150,0,3150,3150,3035,3150,3150,3152,1,1,1,1,0,1,0,0,0,0,3153,3153,0,0,3153,3034,0,3034,1099,0,0,0,3002,0,0,0,0,0,0,0,0,0,0,3155,3155,3155,3155,3155,3155,3155,3155,3155,3155,0,0,3155,0,0,0,0,0,3155,3155,7,0,0,0,0,7,0,0,0,7,7,0,6,16,16,0,16,0,0,0,16,0,3155,3155,3155,0,0,0,0,3156,3156,3156,3156,3156,3156,0,0,3156,7,0,0,0,0,7,0,0,0,7,7,0,6,16,16,0,16,0,16,16,16,3157,0,3157,0,3157,0,3157,3157,16,16,3157,3157,3157,3157,3157,3156,3156,3156,7,0,0,0,0,7,0,0,0,7,7,0,6,3156,16,16,16,0,16,4,16,0,3156,3156,3156,34,34,34,0,34,1,34,3156,0,0,0,3157,0,3157,0,3157,3157,16,16,3157,3157,3157,3157,3157,3156,3156,3156,7,0,0,0,0,7,0,0,0,7,7,0,6,3156,16,16,16,0,16,4,16,0,3156,3156,3156,47,47,47,0,47,1,47,3156,0,0,0,3157,0,3157,0,3157,3157,16,16,3157,3157,3157,3157,3157,3156,3156,3156,7,0,0,0,0,7,0,0,0,7,7,0,6,3156,16,16,16,0,16,4,16,0,3156,3156,3156,60,60,60,0,60,1,60,3156,0,0,0,3157,0,3157,0,3157,3157,16,16,3157,3157,3157,3159,0,0,3155,0,0,0,0,3160,3160,0,0,0,0,3160,0,0,0,0,0,0,0,0,0,3160,0,0,3161,4,12,3161,0,3161,0,3161,0,3161,3161,3161,3161,3163,3163,0,0,3163,0,0,0,0,0,0,3163,0,0,0,0,0,3161,0,3161,0,3161,3161,3161,3161,3163,3163,0,0,3163,0,0,0,0,0,0,3163,0,0,0,0,3163,0,3162,0,3162,3162,3162,0,3161,0,3161,0,3161,3161,3161,3161,3165,3163,3163,3163,3162,3166,3162,0,3162,11,3162,3166,0,0,0,0,0,0,0,0,0,0,0,0,0,0,0,0,0,0,0,0,0,0,0,0,0,0,0,0,0,0,0,3168,0,3168,0,0,0,0,0,0,0,0,3169,3169,3169,3169,3169,3169,0,0,0,0,0,0,0,3169,0,0,0,0,0,0,3170,3170,0,3170,0,0,3168,3168,0,3170,3170,3170,3170,3170,3170,3170,3170,0,3170,0,3170,3170,3170,0,0,0,0,3168,0,3169,3171,0,3171,3168,0,0,3168,3168,3168,3169,3169,3168,0,0,0,0,3168,0,0,3168,0,3168,0,0,0,3168,0,3168,3173,3173,3173,3169,3169,3168,0,0,0,0,3168,0,0,3168,0,3168,0,0,0,3168,0,3173,3173,3173,3168,3168,0,3168,3168,0,3168,3168,3160,3160,3155,3155,3154,3154,3153,3153,1,3168,3168,3168,3174,3174,3168,3174,3174,3174,3155,3168,3168,3168,3175,3175,3168,3175,3175,3175,3154,3168,3168,3168,3176,3176,3168,3176,3176,3176,3153,3168,3168,3168,3177,3177,0,0,0,0,0,3168,0,0,3168,3177,3177,3153,3153,3153,3168,0,0,0,0,0,0,0,3168,0,0,3168,0,0,0,3168,3168,0,3173,3153,3153,3153,3153,1,0,0]
noncomputable def ceA2_11 : List Nat := [3149,3149,3149,0,3149,0,3149,3038,3038,3038,0,3038,0,3150,3150,0,3150,0,3150,3150,3038,3150,3150,3150,0,3150,0,3150,3150,3038,3150,3150,3150,0,3150,0,3150,3150,3038,3150,3150,3152,1,1,1,1,0,1,0,0,0,0,3153,3153,0,0,3153,3037,0,3037,1108,0,0,0,3002,0,0,0,0,3155,3155,3155,3155,3155,3155,3155,3155,3155,3155,0,0,3155,0,0,0,0,0,3155,3155,7,0,0,0,0,7,0,0,0,7,7,0,6,16,16,0,16,0,0,0,16,0,3155,3155,3155,0,0,0,0,3156,3156,3156,3156,3156,3156,0,0,3156,7,0,0,0,0,7,0,0,0,7,7,0,6,16,16,0,16,0,16,16,16,3157,0,3157,0,3157,0,3157,3157,16,16,3157,3157,3157,3157,3157,3156,3156,3156,7,0,0,0,0,7,0,0,0,7,7,0,6,3156,16,16,16,0,16,4,16,0,3156,3156,3156,34,34,34,0,34,1,34,3156,0,0,0,3157,0,3157,0,3157,3157,16,16,3157,3157,3157,3157,3157,3156,3156,3156,7,0,0,0,0,7,0,0,0,7,7,0,6,3156,16,16,16,0,16,4,16,0,3156,3156,3156,47,47,47,0,47,1,47,3156,0,0,0,3157,0,3157,0,3157,3157,16,16,3157,3157,3157,3157,3157,3156,3156,3156,7,0,0,0,0,7,0,0,0,7,7,0,6,3156,16,16,16,0,16,4,16,0,3156,3156,3156,60,60,60,0,60,1,60,3156,0,0,0,3157,0,3157,0,3157,3157,16,16,3157,3157,3157,3159,0,0,3155,0,0,0,0,3160,3160,0,0,0,0,3160,0,0,0,0,0,0,0,0,0,3160,0,0,3161,4,12,3161,0,3161,0,3161,0,3161,3161,3161,3161,3163,3163,0,0,3163,0,0,0,0,0,0,3163,0,0,0,0,0,3161,0,3161,0,3161,3161,3161,3161,3163,3163,0,0,3163,0,0,0,0,0,0,3163,0,0,0,0,0,3161,0,3161,0,3161,3161,3161,3161,3163,3163,0,0,3163,0,0,0,0,0,0,3163,0,0,0,0,0,3161,0,3161,0,3161,3161,3161,3161,3165,3163,3163,3163,3162,3166,3162,0,3162,11,3162,3166,3160,3155,0,0,3155,0,0,3155,3155,7,0,0,0,0,7,0,0,0,7,7,0,6,21,21,0,21,0,0,0,21,0,0,0,0,0,0,0,0,0,0,0,0,0,0,0,0,0,0,0,0,0,0,0,0,0,0,0,0,0,0,0,3168,0,3168,0,0,0,0,0,0,0,0,3169,3169,3169,3169,3169,3169,0,0,0,0,0,0,0,3169,0,0,0,0,0,0,3170,3170,0,3170,0,0,3168,3168,0,3170,3170,3170,3170,3170,3170,3170,3170,0,3170,0,3170,3170,3170,0,0,0,0,3168,0,3169,3171,0,3171,3168,0,0,3168,3168,3168,3169,3169,3168,0,0,0,0,3168,0,0,3168,0,3168,0,0,0,3168,0,3168,3173,3173,3173,3169,3169,3168,0,0,0,0,3168,0,0,3168,0,3168,0,0,0,3168,0,3173,3173,3173,3168,3168,0,3168,3168,0,3168,3168,3155,3155,3154,3154,3153,3153,1,3168,3168,3168,3174,3174,3168,3174,3174,3174,3154,3168,3168,3168,3175,3175,3168,3175,3175,3175,3153,3168,3168,3168,3176,3176,0,0,0,0,0,3168,0,0,3168,3176,3176,3153,3153,3153,3168,0,0,0,0,0,0,0,3168,0,0,3168,0,0,0,3168,3168,0,3173,3153,3153,3153,3153,1,0,0]
noncomputable def ceA2_12 : List Nat := [3149,3149,3149,0,3149,0,3149,3041,3041,3041,0,3041,0,3150,3150,0,3150,0,3150,3150,3041,3150,3150,3150,0,3150,0,3150,3150,3041,3150,3150,3150,0,3150,0,3150,3150,3041,3150,3150,3152,1,1,1,1,0,1,0,0,0,0,3153,3153,0,0,3153,3040,0,3040,1117,0,0,0,3002,0,0,0,0,3155,3155,3155,3155,3155,3155,3155,3155,3155,3155,0,0,3155,0,0,0,0,0,3155,3155,7,0,0,0,0,7,0,0,0,7,7,0,6,16,16,0,16,0,0,0,16,0,3155,3155,3155,0,0,0,0,3156,3156,3156,3156,3156,3156,0,0,3156,7,0,0,0,0,7,0,0,0,7,7,0,6,16,16,0,16,0,16,16,16,3157,0,3157,0,3157,0,3157,3157,16,16,3157,3157,3157,3157,3157,3156,3156,3156,7,0,0,0,0,7,0,0,0,7,7,0,6,3156,16,16,16,0,16,4,16,0,3156,3156,3156,34,34,34,0,34,1,34,3156,0,0,3156,3158,3158,0,3158,8,3158,0,0,0,0,0,0,0,0,0,0,0,0,0,0,0,0,0,0,0,0,0,0,0,0,0,0,0,0,0,0,0,3160,0,3160,0,0,0,0,0,0,0,0,3161,3161,3161,3161,3161,3161,0,0,0,0,0,0,0,3161,0,0,0,0,0,0,3162,3162,0,3162,0,0,3160,3160,0,3162,3162,3162,3162,3162,3162,3162,3162,0,3162,0,3162,3162,3162,0,0,0,0,3160,0,3161,3163,0,3163,3160,0,0,3160,3160,3160,3161,3161,3160,0,0,0,0,3160,0,0,3160,0,3160,0,0,0,3160,0,3160,3165,3165,3165,3161,3161,3160,0,0,0,0,3160,0,0,3160,0,3160,0,0,0,3160,0,3165,3165,3165,3160,3160,0,3160,3160,0,3160,3160,3155,3155,3154,3154,3153,3153,1,3160,3160,3160,3166,3166,3160,3166,3166,3166,3154,3160,3160,3160,3167,3167,3160,3167,3167,3167,3153,3160,3160,3160,3168,3168,0,0,0,0,0,3160,0,0,3160,3168,3168,3153,3153,3153,3160,0,0,0,0,0,0,0,3160,0,0,3160,0,0,0,3160,3160,0,3165,3153,3153,3153,3153,1,0,0]
noncomputable def ceA2_13 : List Nat := [3149,3149,3149,0,3149,0,3149,3044,3044,3044,0,3044,0,3150,3150,0,3150,0,3150,3150,3044,3150,3150,3150,0,3150,0,3150,3150,3044,3150,3150,3150,0,3150,0,3150,3150,3044,3150,3150,3152,1,1,1,1,0,1,0,0,0,0,3153,3153,0,0,3153,3043,0,3043,1126,0,0,0,3002,0,0,0,0,3155,3155,3155,3155,3155,3155,3155,3155,3155,3155,0,0,3155,0,0,0,0,0,3155,3155,7,0,0,0,0,7,0,0,0,7,7,0,6,16,16,0,16,0,0,0,16,0,3155,3155,3155,0,0,0,0,3156,3156,3156,3156,3156,3156,0,0,3156,7,0,0,0,0,7,0,0,0,7,7,0,6,16,16,0,16,0,16,16,16,3157,0,3157,0,3157,0,3157,3157,16,16,3157,3157,3157,3157,3157,3156,3156,3156,7,0,0,0,0,7,0,0,0,7,7,0,6,3156,16,16,16,0,16,4,16,0,3156,3156,3156,34,34,34,0,34,1,34,3156,0,0,0,3157,0,3157,0,3157,3157,16,16,3157,3157,3157,3157,3157,3156,3156,3156,7,0,0,0,0,7,0,0,0,7,7,0,6,3156,16,16,16,0,16,4,16,0,3156,3156,3156,47,47,47,0,47,1,47,3156,0,0,3156,3158,3158,0,3158,8,3158,3156,47,47,47,0,47,1,47,3159,3159,0,3159,8,3159,0,0,0,0,0,0,0,0,0,0,0,0,0,0,0,0,0,0,0,0,0,0,0,0,0,0,0,0,0,0,0,3161,0,3161,0,0,0,0,0,0,0,0,3162,3162,3162,3162,3162,3162,0,0,0,0,0,0,0,3162,0,0,0,0,0,0,3163,3163,0,3163,0,0,3161,3161,0,3163,3163,3163,3163,3163,3163,3163,3163,0,3163,0,3163,3163,3163,0,0,0,0,3161,0,3162,3164,0,3164,3161,0,0,3161,3161,3161,3162,3162,3161,0,0,0,0,3161,0,0,3161,0,3161,0,0,0,3161,0,3161,3166,3166,3166,3162,3162,3161,0,0,0,0,3161,0,0,3161,0,3161,0,0,0,3161,0,3166,3166,3166,3161,3161,0,3161,3161,0,3161,3161,3155,3155,3154,3154,3153,3153,1,3161,3161,3161,3167,3167,3161,3167,3167,3167,3154,3161,3161,3161,3168,3168,3161,3168,3168,3168,3153,3161,3161,3161,3169,3169,0,0,0,0,0,3161,0,0,3161,3169,3169,3153,3153,3153,3161,0,0,0,0,0,0,0,3161,0,0,3161,0,0,0,3161,3161,0,3166,3153,3153,3153,3153,1,0,0]
noncomputable def ceA2_14 : List Nat := [3149,3149,3149,0,3149,0,3149,3047,3047,3047,0,3047,0,3150,3150,0,3150,0,3150,3150,3047,3150,3150,3150,0,3150,0,3150,3150,3047,3150,3150,3150,0,3150,0,3150,3150,3047,3150,3150,3152,1,1,1,1,0,1,0,0,0,0,3153,3153,0,0,3153,3046,0,3046,1135,0,0,0,3002,0,0,0,0,3155,3155,3155,3155,3155,3155,3155,3155,3155,3155,0,0,3155,0,0,0,0,0,3155,3155,7,0,0,0,0,7,0,0,0,7,7,0,6,16,16,0,16,0,0,0,16,0,3155,3155,3155,0,0,0,0,3156,3156,3156,3156,3156,3156,0,0,3156,7,0,0,0,0,7,0,0,0,7,7,0,6,16,16,0,16,0,16,16,16,3157,0,3157,0,3157,0,3157,3157,16,16,3157,3157,3157,3157,3157,3156,3156,3156,7,0,0,0,0,7,0,0,0,7,7,0,6,3156,16,16,16,0,16,4,16,0,3156,3156,3156,34,34,34,0,34,1,34,3156,0,0,0,3157,0,3157,0,3157,3157,16,16,3157,3157,3157,3157,3157,3156,3156,3156,7,0,0,0,0,7,0,0,0,7,7,0,6,3156,16,16,16,0,16,4,16,0,3156,3156,3156,47,47,47,0,47,1,47,3156,0,0,0,3157,0,3157,0,3157,3157,16,16,3157,3157,3157,3157,3157,3156,3156,3156,7,0,0,0,0,7,0,0,0,7,7,0,6,3156,16,16,16,0,16,4,16,0,3156,3156,3156,60,60,60,0,60,1,60,3156,0,0,0,3157,0,3157,0,3157,3157,16,16,3157,3157,3157,3159,0,0,3155,0,0,0,0,3160,3160,0,0,0,0,3160,0,0,0,0,0,0,0,0,0,3160,0,0,3161,4,12,3161,0,3161,0,3161,0,3161,3161,3161,3161,3163,3163,0,0,3163,0,0,0,0,0,0,3163,0,0,0,0,0,3161,0,3161,0,3161,3161,3161,3161,3163,3163,0,0,3163,0,0,0,0,3163,0,3162,0,3162,3162,3162,0,3161,0,3161,0,3161,3161,3161,3161,3163,3163,0,0,3163,0,0,0,0,0,0,3163,0,0,0,0,0,3161,0,3161,0,3161,3161,3161,3161,3165,3163,3163,3163,3162,3166,3162,0,3162,11,3162,3166,0,0,0,0,0,0,0,0,0,0,0,0,0,0,0,0,0,0,0,0,0,0,0,0,0,0,0,0,0,0,0,3168,0,3168,0,0,0,0,0,0,0,0,3169,3169,3169,3169,3169,3169,0,0,0,0,0,0,0,3169,0,0,0,0,0,0,3170,3170,0,3170,0,0,3168,3168,0,3170,3170,3170,3170,3170,3170,3170,3170,0,3170,0,3170,3170,3170,0,0,0,0,3168,0,3169,3171,0,3171,3168,0,0,3168,3168,3168,3169,3169,3168,0,0,0,0,3168,0,0,3168,0,3168,0,0,0,3168,0,3168,3173,3173,3173,3169,3169,3168,0,0,0,0,3168,0,0,3168,0,3168,0,0,0,3168,0,3173,3173,3173,3168,3168,0,3168,3168,0,3168,3168,3160,3160,3155,3155,3154,3154,3153,3153,1,3168,3168,3168,3174,3174,3168,3174,3174,3174,3155,3168,3168,3168,3175,3175,3168,3175,3175,3175,3154,3168,3168,3168,3176,3176,3168,3176,3176,3176,3153,3168,3168,3168,3177,3177,0,0,0,0,0,3168,0,0,3168,3177,3177,3153,3153,3153,3168,0,0,0,0,0,0,0,3168,0,0,3168,0,0,0,3168,3168,0,3173,3153,3153,3153,3153,1,0,0]
noncomputable def ceA2_15 : List Nat := [3149,3149,3149,0,3149,0,3149,3050,3050,3050,0,3050,0,3150,3150,0,3150,0,3150,3150,3050,3150,3150,3150,0,3150,0,3150,3150,3050,3150,3150,3150,0,3150,0,3150,3150,3050,3150,3150,3152,1,1,1,1,0,1,0,0,0,0,3153,3153,0,0,3153,3049,0,3049,1144,0,0,0,3002,0,0,0,0,3155,3155,3155,3155,3155,3155,3155,3155,3155,3155,0,0,3155,0,0,0,0,0,3155,3155,7,0,0,0,0,7,0,0,0,7,7,0,6,16,16,0,16,0,0,0,16,0,3155,3155,3155,0,0,0,0,3156,3156,3156,3156,3156,3156,0,0,3156,7,0,0,0,0,7,0,0,0,7,7,0,6,16,16,0,16,0,16,16,16,3157,0,3157,0,3157,0,3157,3157,16,16,3157,3157,3157,3157,3157,3156,3156,3156,7,0,0,0,0,7,0,0,0,7,7,0,6,3156,16,16,16,0,16,4,16,0,3156,3156,3156,34,34,34,0,34,1,34,3156,0,0,0,3157,0,3157,0,3157,3157,16,16,3157,3157,3157,3157,3157,3156,3156,3156,7,0,0,0,0,7,0,0,0,7,7,0,6,3156,16,16,16,0,16,4,16,0,3156,3156,3156,47,47,47,0,47,1,47,3156,0,0,0,3157,0,3157,0,3157,3157,16,16,3157,3157,3157,3157,3157,3156,3156,3156,7,0,0,0,0,7,0,0,0,7,7,0,6,3156,16,16,16,0,16,4,16,0,3156,3156,3156,60,60,60,0,60,1,60,3156,0,0,0,3157,0,3157,0,3157,3157,16,16,3157,3157,3157,3159,0,0,3155,0,0,0,0,3160,3160,0,0,0,0,3160,0,0,0,0,0,0,0,0,0,0,0,0,0,0,0,0,0,0,0,0,0,0,0,0,0,0,0,0,0,0,0,0,0,0,0,0,0,3162,0,3162,0,0,0,0,0,0,0,0,3163,3163,3163,3163,3163,3163,0,0,0,0,0,0,0,3163,0,0,0,0,0,0,3164,3164,0,3164,0,0,3162,3162,0,3164,3164,3164,3164,3164,3164,3164,3164,0,3164,0,3164,3164,3164,0,0,0,0,3162,0,3163,3165,0,3165,3162,0,0,3162,3162,3162,3163,3163,3162,0,0,0,0,3162,0,0,3162,0,3162,0,0,0,3162,0,3162,3167,3167,3167,3163,3163,3162,0,0,0,0,3162,0,0,3162,0,3162,0,0,0,3162,0,3167,3167,3167,3162,3162,0,3162,3162,0,3162,3162,3160,3160,3155,3155,3154,3154,3153,3153,1,3162,3162,3162,3168,3168,3162,3168,3168,3168,3155,3162,3162,3162,3169,3169,3162,3169,3169,3169,3154,3162,3162,3162,3170,3170,3162,3170,3170,3170,3153,3162,3162,3162,3171,3171,0,0,0,0,0,3162,0,0,3162,3171,3171,3153,3153,3153,3162,0,0,0,0,0,0,0,3162,0,0,3162,0,0,0,3162,3162,0,3167,3153,3153,3153,3153,1,0,0]
noncomputable def ceA2_16 : List Nat := [3149,3149,3149,0,3149,0,3149,3056,3056,3056,0,3056,0,3150,3150,0,3150,0,3150,3150,3056,3150,3150,3150,0,3150,0,3150,3150,3056,3150,3150,3150,0,3150,0,3150,3150,3056,3150,3150,3152,1,1,1,1,0,1,0,0,0,0,3153,3153,0,0,3153,3055,0,3055,1156,0,0,0,3053,0,0,0,0,3155,3155,3155,3155,3155,3155,0,0,0,3155,3155,3155,0,0,0,0,0,0,0,3156,3156,3156,3156,3156,3156,0,0,0,3156,3156,0,0,0,0,3158,3158,3158,3158,3158,3158,0,0,3158,3158,7,0,0,0,0,7,0,0,0,7,7,0,6,16,16,0,16,5,16,3158,7,0,0,0,0,7,0,0,0,7,7,0,6,3158,16,16,16,0,16,4,16,0,3158,3158,3158,34,34,34,0,34,1,34,3158,3157,3157,0,3157,8,3157,0,0,0,0,0,0,0,0,0,0,0,0,0,0,0,0,0,0,0,0,0,0,0,0,0,0,0,0,0,0,0,3160,0,3160,0,0,0,0,0,0,0,0,3161,3161,3161,3161,3161,3161,0,0,0,0,0,0,0,3161,0,0,0,0,0,0,3162,3162,0,3162,0,0,3160,3160,0,3162,3162,3162,3162,3162,3162,3162,3162,0,3162,0,3162,3162,3162,0,0,0,0,3160,0,3161,3163,0,3163,3160,0,0,3160,3160,3160,3161,3161,3160,0,0,0,0,3160,0,0,3160,0,3160,0,0,0,3160,0,3160,3165,3165,3165,3161,3161,3160,0,0,0,0,3160,0,0,3160,0,3160,0,0,0,3160,0,3165,3165,3165,3160,3160,0,3160,3160,0,3160,3160,3158,3158,3156,3156,3155,3155,3154,3154,3153,3153,1,3160,3160,3160,3166,3166,3160,3166,3166,3166,3156,3160,3160,3160,3167,3167,3160,3167,3167,3167,3155,3160,3160,3160,3168,3168,3160,3168,3168,3168,3154,3160,3160,3160,3169,3169,3160,3169,3169,3169,3153,3160,3160,3160,3170,3170,0,0,0,0,0,3160,0,0,3160,3170,3170,3153,3153,3153,3160,0,0,0,0,0,0,0,3160,0,0,3160,0,0,0,3160,3160,0,3165,3153,3153,3153,3153,1,0,0]
noncomputable def ceA2_17 : List Nat := [3149,3149,3149,0,3149,0,3149,3059,3059,3059,0,3059,0,3150,3150,0,3150,0,3150,3150,3059,3150,3150,3150,0,3150,0,3150,3150,3059,3150,3150,3150,0,3150,0,3150,3150,3059,3150,3150,3152,1,1,1,1,0,1,0,0,0,0,3153,3153,0,0,3153,3058,0,3058,1165,0,0,0,3053,0,0,0,0,3155,3155,3155,3155,3155,3155,0,0,0,3155,3155,3155,0,0,0,0,0,0,0,3156,3156,3156,3156,3156,3156,0,0,0,3156,3156,0,0,0,0,3158,3158,3158,3158,3158,3158,0,0,3158,3158,7,0,0,0,0,7,0,0,0,7,7,0,6,16,16,0,16,5,16,3158,7,0,0,0,0,7,0,0,0,7,7,0,6,3158,16,16,16,0,16,4,16,0,3158,3158,3158,60,60,60,0,60,1,60,3158,3157,3157,0,3157,8,3157,0,0,0,0,0,0,0,0,0,0,0,0,0,0,0,0,0,0,0,0,0,0,0,0,0,0,0,0,0,0,0,3160,0,3160,0,0,0,0,0,0,0,0,3161,3161,3161,3161,3161,3161,0,0,0,0,0,0,0,3161,0,0,0,0,0,0,3162,3162,0,3162,0,0,3160,3160,0,3162,3162,3162,3162,3162,3162,3162,3162,0,3162,0,3162,3162,3162,0,0,0,0,3160,0,3161,3163,0,3163,3160,0,0,3160,3160,3160,3161,3161,3160,0,0,0,0,3160,0,0,3160,0,3160,0,0,0,3160,0,3160,3165,3165,3165,3161,3161,3160,0,0,0,0,3160,0,0,3160,0,3160,0,0,0,3160,0,3165,3165,3165,3160,3160,0,3160,3160,0,3160,3160,3158,3158,3156,3156,3155,3155,3154,3154,3153,3153,1,3160,3160,3160,3166,3166,3160,3166,3166,3166,3156,3160,3160,3160,3167,3167,3160,3167,3167,3167,3155,3160,3160,3160,3168,3168,3160,3168,3168,3168,3154,3160,3160,3160,3169,3169,3160,3169,3169,3169,3153,3160,3160,3160,3170,3170,0,0,0,0,0,3160,0,0,3160,3170,3170,3153,3153,3153,3160,0,0,0,0,0,0,0,3160,0,0,3160,0,0,0,3160,3160,0,3165,3153,3153,3153,3153,1,0,0]
noncomputable def ceA2_18 : List Nat := [3149,3149,3149,0,3149,0,3149,3062,3062,3062,0,3062,0,3150,3150,0,3150,0,3150,3150,3062,3150,3150,3150,0,3150,0,3150,3150,3062,3150,3150,3150,0,3150,0,3150,3150,3062,3150,3150,3152,1,1,1,1,0,1,0,0,0,0,3153,3153,0,0,3153,3061,0,3061,1174,0,0,0,3053,0,0,0,0,3155,3155,3155,3155,3155,3155,0,0,0,3155,3155,3155,0,0,0,0,0,0,0,3156,3156,3156,3156,3156,3156,0,0,0,3156,3156,0,0,0,0,3158,3158,3158,3158,3158,3158,0,0,3158,3158,7,0,0,0,0,7,0,0,0,7,7,0,6,16,16,0,16,0,0,0,16,0,0,0,0,0,0,0,0,0,0,0,0,0,0,0,0,0,0,0,0,0,0,0,0,0,0,0,0,0,0,0,3160,0,3160,0,0,0,0,0,0,0,0,3161,3161,3161,3161,3161,3161,0,0,0,0,0,0,0,3161,0,0,0,0,0,0,3162,3162,0,3162,0,0,3160,3160,0,3162,3162,3162,3162,3162,3162,3162,3162,0,3162,0,3162,3162,3162,0,0,0,0,3160,0,3161,3163,0,3163,3160,0,0,3160,3160,3160,3161,3161,3160,0,0,0,0,3160,0,0,3160,0,3160,0,0,0,3160,0,3160,3165,3165,3165,3161,3161,3160,0,0,0,0,3160,0,0,3160,0,3160,0,0,0,3160,0,3165,3165,3165,3160,3160,0,3160,3160,0,3160,3160,3158,3158,3156,3156,3155,3155,3154,3154,3153,3153,1,3160,3160,3160,3166,3166,3160,3166,3166,3166,3156,3160,3160,3160,3167,3167,3160,3167,3167,3167,3155,3160,3160,3160,3168,3168,3160,3168,3168,3168,3154,3160,3160,3160,3169,3169,3160,3169,3169,3169,3153,3160,3160,3160,3170,3170,0,0,0,0,0,3160,0,0,3160,3170,3170,3153,3153,3153,3160,0,0,0,0,0,0,0,3160,0,0,3160,0,0,0,3160,3160,0,3165,3153,3153,3153,3153,1,0,0]
noncomputable def ceA2_19 : List Nat := [3149,3149,3149,0,3149,0,3149,3065,3065,3065,0,3065,0,3150,3150,0,3150,0,3150,3150,3065,3150,3150,3150,0,3150,0,3150,3150,3065,3150,3150,3150,0,3150,0,3150,3150,3065,3150,3150,3152,1,1,1,1,0,1,0,0,0,0,3153,3153,0,0,3153,3064,0,3064,1183,0,0,0,3053,0,0,0,0,3155,3155,3155,3155,0,0,0,3155,3155,0,0,0,0,3156,3156,3156,3156,0,0,0,3156,3156,0,0,0,0,3158,3158,3158,3158,3158,3158,0,0,3158,3158,7,0,0,0,0,7,0,0,0,7,7,0,6,16,16,0,16,5,16,3158,7,0,0,0,0,7,0,0,0,7,7,0,6,3158,16,16,16,0,16,4,16,0,3158,3158,3158,47,47,47,0,47,1,47,3158,3157,3157,0,3157,8,3157,0,0,0,0,0,0,0,0,0,0,0,0,0,0,0,0,0,0,0,0,0,0,0,0,0,0,0,0,0,0,0,3160,0,3160,0,0,0,0,0,0,0,0,3161,3161,3161,3161,3161,3161,0,0,0,0,0,0,0,3161,0,0,0,0,0,0,3162,3162,0,3162,0,0,3160,3160,0,3162,3162,3162,3162,3162,3162,3162,3162,0,3162,0,3162,3162,3162,0,0,0,0,3160,0,3161,3163,0,3163,3160,0,0,3160,3160,3160,3161,3161,3160,0,0,0,0,3160,0,0,3160,0,3160,0,0,0,3160,0,3160,3165,3165,3165,3161,3161,3160,0,0,0,0,3160,0,0,3160,0,3160,0,0,0,3160,0,3165,3165,3165,3160,3160,0,3160,3160,0,3160,3160,3158,3158,3156,3156,3155,3155,3154,3154,3153,3153,1,3160,3160,3160,3166,3166,3160,3166,3166,3166,3156,3160,3160,3160,3167,3167,3160,3167,3167,3167,3155,3160,3160,3160,3168,3168,3160,3168,3168,3168,3154,3160,3160,3160,3169,3169,3160,3169,3169,3169,3153,3160,3160,3160,3170,3170,0,0,0,0,0,3160,0,0,3160,3170,3170,3153,3153,3153,3160,0,0,0,0,0,0,0,3160,0,0,3160,0,0,0,3160,3160,0,3165,3153,3153,3153,3153,1,0,0]
noncomputable def ceA2_20 : List Nat := [3149,3149,3149,0,3149,0,3149,3068,3068,3068,0,3068,0,3150,3150,0,3150,0,3150,3150,3068,3150,3150,3150,0,3150,0,3150,3150,3068,3150,3150,3150,0,3150,0,3150,3150,3068,3150,3150,3152,1,1,1,1,0,1,0,0,0,0,3153,3153,0,0,3153,3067,0,3067,1192,0,0,0,3053,0,0,0,0,3155,3155,3155,3155,0,0,0,3155,3155,0,0,0,0,3157,3157,3157,3157,3157,3157,0,0,3157,3157,7,0,0,0,0,7,0,0,0,7,7,0,6,16,16,0,16,5,16,3157,7,0,0,0,0,7,0,0,0,7,7,0,6,3157,16,16,16,0,16,4,16,0,3157,3157,3157,60,60,60,0,60,1,60,3157,3156,3156,0,3156,8,3156,0,0,0,0,0,0,0,0,0,0,0,0,0,0,0,0,0,0,0,0,0,0,0,0,0,0,0,0,0,0,0,3159,0,3159,0,0,0,0,0,0,0,0,3160,3160,3160,3160,3160,3160,0,0,0,0,0,0,0,3160,0,0,0,0,0,0,3161,3161,0,3161,0,0,3159,3159,0,3161,3161,3161,3161,3161,3161,3161,3161,0,3161,0,3161,3161,3161,0,0,0,0,3159,0,3160,3162,0,3162,3159,0,0,3159,3159,3159,3160,3160,3159,0,0,0,0,3159,0,0,3159,0,3159,0,0,0,3159,0,3159,3164,3164,3164,3160,3160,3159,0,0,0,0,3159,0,0,3159,0,3159,0,0,0,3159,0,3164,3164,3164,3159,3159,0,3159,3159,0,3159,3159,3157,3157,3155,3155,3154,3154,3153,3153,1,3159,3159,3159,3165,3165,3159,3165,3165,3165,3155,3159,3159,3159,3166,3166,3159,3166,3166,3166,3154,3159,3159,3159,3167,3167,3159,3167,3167,3167,3153,3159,3159,3159,3168,3168,0,0,0,0,0,3159,0,0,3159,3168,3168,3153,3153,3153,3159,0,0,0,0,0,0,0,3159,0,0,3159,0,0,0,3159,3159,0,3164,3153,3153,3153,3153,1,0,0]
noncomputable def ceA2_21 : List Nat := [3149,3149,3149,0,3149,0,3149,3071,3071,3071,0,3071,0,3150,3150,0,3150,0,3150,3150,3071,3150,3150,3150,0,3150,0,3150,3150,3071,3150,3150,3150,0,3150,0,3150,3150,3071,3150,3150,3152,1,1,1,1,0,1,0,0,0,0,3153,3153,0,0,3153,3070,0,3070,1201,0,0,0,3053,0,0,0,0,3155,3155,3155,3155,3155,3155,0,0,0,3155,3155,0,0,0,0,3156,3156,3156,3156,0,0,0,3156,3156,0,0,0,0,3158,3158,3158,3158,3158,3158,0,0,3158,3158,7,0,0,0,0,7,0,0,0,7,7,0,6,16,16,0,16,5,16,3158,7,0,0,0,0,7,0,0,0,7,7,0,6,3158,16,16,16,0,16,4,16,0,3158,3158,3158,34,34,34,0,34,1,34,3158,3157,3157,0,3157,8,3157,3158,3156,3156,3156,7,0,0,0,0,7,0,0,0,7,7,0,6,3156,34,34,34,0,34,1,34,21,21,21,0,21,1,21,0,3156,34,34,34,0,34,1,34,0,0,3159,3159,3159,3159,3155,3155,3155,0,0,3155,0,0,0,0,0,0,0,0,0,0,0,0,0,0,0,0,0,0,0,0,0,0,0,0,0,0,0,0,0,0,0,0,0,0,0,0,0,3161,0,3161,0,0,0,0,0,0,0,0,3162,3162,3162,3162,3162,3162,0,0,0,0,0,0,0,3162,0,0,0,0,0,0,3163,3163,0,3163,0,0,3161,3161,0,3163,3163,3163,3163,3163,3163,3163,3163,0,3163,0,3163,3163,3163,0,0,0,0,3161,0,3162,3164,0,3164,3161,0,0,3161,3161,3161,3162,3162,3161,0,0,0,0,3161,0,0,3161,0,3161,0,0,0,3161,0,3161,3166,3166,3166,3162,3162,3161,0,0,0,0,3161,0,0,3161,0,3161,0,0,0,3161,0,3166,3166,3166,3161,3161,0,3161,3161,0,3161,3161,3155,3155,3154,3154,3153,3153,1,3161,3161,3161,3167,3167,3161,3167,3167,3167,3154,3161,3161,3161,3168,3168,3161,3168,3168,3168,3153,3161,3161,3161,3169,3169,0,0,0,0,0,3161,0,0,3161,3169,3169,3153,3153,3153,3161,0,0,0,0,0,0,0,3161,0,0,3161,0,0,0,3161,3161,0,3166,3153,3153,3153,3153,1,0,0]
noncomputable def ceA2_22 : List Nat := [3149,3149,3149,0,3149,0,3149,3074,3074,3074,0,3074,0,3150,3150,0,3150,0,3150,3150,3074,3150,3150,3150,0,3150,0,3150,3150,3074,3150,3150,3150,0,3150,0,3150,3150,3074,3150,3150,3152,1,1,1,1,0,1,0,0,0,0,3153,3153,0,0,3153,3073,0,3073,1210,0,0,0,3053,0,0,0,0,3155,3155,3155,3155,0,0,0,3155,3155,0,0,0,0,3157,3157,3157,3157,3157,3157,0,0,3157,3157,7,0,0,0,0,7,0,0,0,7,7,0,6,16,16,0,16,5,16,3157,7,0,0,0,0,7,0,0,0,7,7,0,6,3157,16,16,16,0,16,4,16,0,3157,3157,3157,47,47,47,0,47,1,47,3157,3156,3156,0,3156,8,3156,0,0,0,0,0,0,0,0,0,0,0,0,0,0,0,0,0,0,0,0,0,0,0,0,0,0,0,0,0,0,0,3159,0,3159,0,0,0,0,0,0,0,0,3160,3160,3160,3160,3160,3160,0,0,0,0,0,0,0,3160,0,0,0,0,0,0,3161,3161,0,3161,0,0,3159,3159,0,3161,3161,3161,3161,3161,3161,3161,3161,0,3161,0,3161,3161,3161,0,0,0,0,3159,0,3160,3162,0,3162,3159,0,0,3159,3159,3159,3160,3160,3159,0,0,0,0,3159,0,0,3159,0,3159,0,0,0,3159,0,3159,3164,3164,3164,3160,3160,3159,0,0,0,0,3159,0,0,3159,0,3159,0,0,0,3159,0,3164,3164,3164,3159,3159,0,3159,3159,0,3159,3159,3157,3157,3155,3155,3154,3154,3153,3153,1,3159,3159,3159,3165,3165,3159,3165,3165,3165,3155,3159,3159,3159,3166,3166,3159,3166,3166,3166,3154,3159,3159,3159,3167,3167,3159,3167,3167,3167,3153,3159,3159,3159,3168,3168,0,0,0,0,0,3159,0,0,3159,3168,3168,3153,3153,3153,3159,0,0,0,0,0,0,0,3159,0,0,3159,0,0,0,3159,3159,0,3164,3153,3153,3153,3153,1,0,0]
noncomputable def ceA2_23 : List Nat := [3149,3149,3149,0,3149,0,3149,3077,3077,3077,0,3077,0,3150,3150,0,3150,0,3150,3150,3077,3150,3150,3150,0,3150,0,3150,3150,3077,3150,3150,3150,0,3150,0,3150,3150,3077,3150,3150,3152,1,1,1,1,0,1,0,0,0,0,3153,3153,0,0,3153,3076,0,3076,1219,0,0,0,3053,0,0,0,0,3155,3155,3155,3155,0,0,0,3155,3155,0,0,0,0,3157,3157,3157,3157,3157,3157,0,0,3157,3157,7,0,0,0,0,7,0,0,0,7,7,0,6,16,16,0,16,0,0,0,16,0,0,0,0,0,0,0,0,0,0,0,0,0,0,0,0,0,0,0,0,0,0,0,0,0,0,0,0,0,0,0,3159,0,3159,0,0,0,0,0,0,0,0,3160,3160,3160,3160,3160,3160,0,0,0,0,0,0,0,3160,0,0,0,0,0,0,3161,3161,0,3161,0,0,3159,3159,0,3161,3161,3161,3161,3161,3161,3161,3161,0,3161,0,3161,3161,3161,0,0,0,0,3159,0,3160,3162,0,3162,3159,0,0,3159,3159,3159,3160,3160,3159,0,0,0,0,3159,0,0,3159,0,3159,0,0,0,3159,0,3159,3164,3164,3164,3160,3160,3159,0,0,0,0,3159,0,0,3159,0,3159,0,0,0,3159,0,3164,3164,3164,3159,3159,0,3159,3159,0,3159,3159,3157,3157,3155,3155,3154,3154,3153,3153,1,3159,3159,3159,3165,3165,3159,3165,3165,3165,3155,3159,3159,3159,3166,3166,3159,3166,3166,3166,3154,3159,3159,3159,3167,3167,3159,3167,3167,3167,3153,3159,3159,3159,3168,3168,0,0,0,0,0,3159,0,0,3159,3168,3168,3153,3153,3153,3159,0,0,0,0,0,0,0,3159,0,0,3159,0,0,0,3159,3159,0,3164,3153,3153,3153,3153,1,0,0]
noncomputable def ceA2_24 : List Nat := [3149,3149,3149,0,3149,0,3149,3080,3080,3080,0,3080,0,3150,3150,0,3150,0,3150,3150,3080,3150,3150,3150,0,3150,0,3150,3150,3080,3150,3150,3150,0,3150,0,3150,3150,3080,3150,3150,3152,1,1,1,1,0,1,0,0,0,0,3153,3153,0,0,3153,3079,0,3079,1228,0,0,0,3053,0,0,0,0,3155,3155,3155,3155,0,0,0,3155,3155,0,0,0,0,3157,3157,3157,3157,3157,3157,0,0,3157,3157,7,0,0,0,0,7,0,0,0,7,7,0,6,16,16,0,16,0,0,0,16,0,0,0,0,0,0,0,0,0,0,0,0,0,0,0,0,0,0,0,0,0,0,0,0,0,0,0,0,0,0,0,3159,0,3159,0,0,0,0,0,0,0,0,3160,3160,3160,3160,3160,3160,0,0,0,0,0,0,0,3160,0,0,0,0,0,0,3161,3161,0,3161,0,0,3159,3159,0,3161,3161,3161,3161,3161,3161,3161,3161,0,3161,0,3161,3161,3161,0,0,0,0,3159,0,3160,3162,0,3162,3159,0,0,3159,3159,3159,3160,3160,3159,0,0,0,0,3159,0,0,3159,0,3159,0,0,0,3159,0,3159,3164,3164,3164,3160,3160,3159,0,0,0,0,3159,0,0,3159,0,3159,0,0,0,3159,0,3164,3164,3164,3159,3159,0,3159,3159,0,3159,3159,3157,3157,3155,3155,3154,3154,3153,3153,1,3159,3159,3159,3165,3165,3159,3165,3165,3165,3155,3159,3159,3159,3166,3166,3159,3166,3166,3166,3154,3159,3159,3159,3167,3167,3159,3167,3167,3167,3153,3159,3159,3159,3168,3168,0,0,0,0,0,3159,0,0,3159,3168,3168,3153,3153,3153,3159,0,0,0,0,0,0,0,3159,0,0,3159,0,0,0,3159,3159,0,3164,3153,3153,3153,3153,1,0,0]
noncomputable def ceA2_25 : List Nat := [3149,3149,3149,0,3149,0,3149,3083,3083,3083,0,3083,0,3150,3150,0,3150,0,3150,3150,3083,3150,3150,3150,0,3150,0,3150,3150,3083,3150,3150,3150,0,3150,0,3150,3150,3083,3150,3150,3152,1,1,1,1,0,1,0,0,0,0,3153,3153,0,0,3153,3082,0,3082,1237,0,0,0,3053,0,0,0,0,3156,3156,3157,3157,0,0,3157,3156,7,0,0,0,0,7,0,0,0,7,7,0,6,21,21,0,21,0,0,0,21,0,0,0,0,0,0,0,0,0,0,0,0,0,0,0,0,0,0,0,0,0,0,0,0,0,0,0,0,0,0,0,3159,0,3159,0,0,0,0,0,0,0,0,3160,3160,3160,3160,3160,3160,0,0,0,0,0,0,0,3160,0,0,0,0,0,0,3161,3161,0,3161,0,0,3159,3159,0,3161,3161,3161,3161,3161,3161,3161,3161,0,3161,0,3161,3161,3161,0,0,0,0,3159,0,3160,3162,0,3162,3159,0,0,3159,3159,3159,3160,3160,3159,0,0,0,0,3159,0,0,3159,0,3159,0,0,0,3159,0,3159,3164,3164,3164,3160,3160,3159,0,0,0,0,3159,0,0,3159,0,3159,0,0,0,3159,0,3164,3164,3164,3159,3159,0,3159,3159,0,3159,3159,3155,3155,3154,3154,3153,3153,1,3159,3159,3159,3165,3165,3159,3165,3165,3165,3154,3159,3159,3159,3166,3166,3159,3166,3166,3166,3153,3159,3159,3159,3167,3167,0,0,0,0,0,3159,0,0,3159,3167,3167,3153,3153,3153,3159,0,0,0,0,0,0,0,3159,0,0,3159,0,0,0,3159,3159,0,3164,3153,3153,3153,3153,1,0,0]
noncomputable def ceA2_26 : List Nat := [3149,3149,3149,0,3149,0,3149,3086,3086,3086,0,3086,0,3150,3150,0,3150,0,3150,3150,3086,3150,3150,3150,0,3150,0,3150,3150,3086,3150,3150,3150,0,3150,0,3150,3150,3086,3150,3150,3152,1,1,1,1,0,1,0,0,0,0,3153,3153,0,0,3153,3085,0,3085,1246,0,0,0,3053,0,0,0,0,3156,3156,3157,3157,0,0,3157,3156,7,0,0,0,0,7,0,0,0,7,7,0,6,21,21,0,21,2,21,3156,7,0,0,0,0,7,0,0,0,7,7,0,6,16,16,0,16,0,16,16,16,3158,4,12,3158,0,3158,0,3158,0,3158,3158,16,16,3158,3158,3158,3158,3158,3160,3160,3156,7,0,0,0,0,7,0,0,0,7,7,0,6,3160,16,16,16,0,16,4,16,0,34,34,34,0,34,1,34,0,3157,0,0,0,3158,0,3158,0,3158,3158,16,16,3158,3158,3158,3158,3158,3160,3160,3156,7,0,0,0,0,7,0,0,0,7,7,0,6,3160,16,16,16,0,16,4,16,0,47,47,47,0,47,1,47,0,3157,0,0,0,3158,0,3158,0,3158,3158,16,16,3158,3158,3158,3158,3158,3160,3160,3156,7,0,0,0,0,7,0,0,0,7,7,0,6,3160,16,16,16,0,16,4,16,0,60,60,60,0,60,1,60,0,3157,0,0,3160,0,3159,0,3159,3159,3159,0,3158,0,3158,0,3158,3158,16,16,3158,3158,3158,3162,3160,3160,3160,3159,3163,3159,0,3159,11,3159,3163,0,0,0,0,0,0,0,0,0,0,0,0,0,0,0,0,0,0,0,0,0,0,0,0,0,0,0,0,0,0,0,3165,0,3165,0,0,0,0,0,0,0,0,3166,3166,3166,3166,3166,3166,0,0,0,0,0,0,0,3166,0,0,0,0,0,0,3167,3167,0,3167,0,0,3165,3165,0,3167,3167,3167,3167,3167,3167,3167,3167,0,3167,0,3167,3167,3167,0,0,0,0,3165,0,3166,3168,0,3168,3165,0,0,3165,3165,3165,3166,3166,3165,0,0,0,0,3165,0,0,3165,0,3165,0,0,0,3165,0,3165,3170,3170,3170,3166,3166,3165,0,0,0,0,3165,0,0,3165,0,3165,0,0,0,3165,0,3170,3170,3170,3165,3165,0,3165,3165,0,3165,3165,3155,3155,3154,3154,3153,3153,1,3165,3165,3165,3171,3171,3165,3171,3171,3171,3154,3165,3165,3165,3172,3172,3165,3172,3172,3172,3153,3165,3165,3165,3173,3173,0,0,0,0,0,3165,0,0,3165,3173,3173,3153,3153,3153,3165,0,0,0,0,0,0,0,3165,0,0,3165,0,0,0,3165,3165,0,3170,3153,3153,3153,3153,1,0,0]
noncomputable def ceA2_27 : List Nat := [3149,3149,3149,0,3149,0,3149,3089,3089,3089,0,3089,0,3150,3150,0,3150,0,3150,3150,3089,3150,3150,3150,0,3150,0,3150,3150,3089,3150,3150,3150,0,3150,0,3150,3150,3089,3150,3150,3152,1,1,1,1,0,1,0,0,0,0,3153,3153,0,0,3153,3088,0,3088,1255,0,0,0,3053,0,0,0,0,3156,3156,3157,3157,3155,3155,0,0,3157,3156,7,0,0,0,0,7,0,0,0,7,7,0,6,21,21,0,21,2,21,3156,7,0,0,0,0,7,0,0,0,7,7,0,6,16,16,0,16,0,16,16,16,3158,4,12,3158,0,3158,0,3158,0,3158,3158,16,16,3158,3158,3158,3158,3158,3160,3160,3156,7,0,0,0,0,7,0,0,0,7,7,0,6,3160,16,16,16,0,16,4,16,0,34,34,34,0,34,1,34,0,3157,0,0,3160,0,3159,0,3159,3159,3159,0,3158,0,3158,0,3158,3158,16,16,3158,3158,3158,3158,3158,3160,3160,3156,7,0,0,0,0,7,0,0,0,7,7,0,6,3160,16,16,16,0,16,4,16,0,47,47,47,0,47,1,47,0,3157,0,0,0,3158,0,3158,0,3158,3158,16,16,3158,3158,3158,3158,3158,3160,3160,3156,7,0,0,0,0,7,0,0,0,7,7,0,6,3160,16,16,16,0,16,4,16,0,60,60,60,0,60,1,60,0,3157,0,0,0,3158,0,3158,0,3158,3158,16,16,3158,3158,3158,3162,3160,3160,3160,3159,3163,3159,0,3159,11,3159,3163,0,0,0,0,0,0,0,0,0,0,0,0,0,0,0,0,0,0,0,0,0,0,0,0,0,0,0,0,0,0,0,3165,0,3165,0,0,0,0,0,0,0,0,3166,3166,3166,3166,3166,3166,0,0,0,0,0,0,0,3166,0,0,0,0,0,0,3167,3167,0,3167,0,0,3165,3165,0,3167,3167,3167,3167,3167,3167,3167,3167,0,3167,0,3167,3167,3167,0,0,0,0,3165,0,3166,3168,0,3168,3165,0,0,3165,3165,3165,3166,3166,3165,0,0,0,0,3165,0,0,3165,0,3165,0,0,0,3165,0,3165,3170,3170,3170,3166,3166,3165,0,0,0,0,3165,0,0,3165,0,3165,0,0,0,3165,0,3170,3170,3170,3165,3165,0,3165,3165,0,3165,3165,3155,3155,3154,3154,3153,3153,1,3165,3165,3165,3171,3171,3165,3171,3171,3171,3154,3165,3165,3165,3172,3172,3165,3172,3172,3172,3153,3165,3165,3165,3173,3173,0,0,0,0,0,3165,0,0,3165,3173,3173,3153,3153,3153,3165,0,0,0,0,0,0,0,3165,0,0,3165,0,0,0,3165,3165,0,3170,3153,3153,3153,3153,1,0,0]
noncomputable def ceA2_28 : List Nat := [3149,3149,3149,0,3149,0,3149,3092,3092,3092,0,3092,0,3150,3150,0,3150,0,3150,3150,3092,3150,3150,3150,0,3150,0,3150,3150,3092,3150,3150,3150,0,3150,0,3150,3150,3092,3150,3150,3152,1,1,1,1,0,1,0,0,0,0,3153,3153,0,0,3153,3091,0,3091,1264,0,0,0,3053,0,0,0,0,3156,3156,3157,3157,3155,3155,0,0,3157,3156,7,0,0,0,0,7,0,0,0,7,7,0,6,21,21,0,21,0,0,0,21,0,0,0,0,0,0,0,0,0,0,0,0,0,0,0,0,0,0,0,0,0,0,0,0,0,0,0,0,0,0,0,3159,0,3159,0,0,0,0,0,0,0,0,3160,3160,3160,3160,3160,3160,0,0,0,0,0,0,0,3160,0,0,0,0,0,0,3161,3161,0,3161,0,0,3159,3159,0,3161,3161,3161,3161,3161,3161,3161,3161,0,3161,0,3161,3161,3161,0,0,0,0,3159,0,3160,3162,0,3162,3159,0,0,3159,3159,3159,3160,3160,3159,0,0,0,0,3159,0,0,3159,0,3159,0,0,0,3159,0,3159,3164,3164,3164,3160,3160,3159,0,0,0,0,3159,0,0,3159,0,3159,0,0,0,3159,0,3164,3164,3164,3159,3159,0,3159,3159,0,3159,3159,3155,3155,3154,3154,3153,3153,1,3159,3159,3159,3165,3165,3159,3165,3165,3165,3154,3159,3159,3159,3166,3166,3159,3166,3166,3166,3153,3159,3159,3159,3167,3167,0,0,0,0,0,3159,0,0,3159,3167,3167,3153,3153,3153,3159,0,0,0,0,0,0,0,3159,0,0,3159,0,0,0,3159,3159,0,3164,3153,3153,3153,3153,1,0,0]
noncomputable def ceA2_29 : List Nat := [3149,3149,3149,0,3149,0,3149,3095,3095,3095,0,3095,0,3150,3150,0,3150,0,3150,3150,3095,3150,3150,3150,0,3150,0,3150,3150,3095,3150,3150,3150,0,3150,0,3150,3150,3095,3150,3150,3152,1,1,1,1,0,1,0,0,0,0,3153,3153,0,0,3153,3094,0,3094,1273,0,0,0,3053,0,0,0,0,3156,3156,3157,3157,3155,3155,0,0,3157,3156,7,0,0,0,0,7,0,0,0,7,7,0,6,21,21,0,21,2,21,3156,7,0,0,0,0,7,0,0,0,7,7,0,6,16,16,0,16,0,16,16,16,3158,4,12,3158,0,3158,0,3158,0,3158,3158,16,16,3158,3158,3158,3158,3158,3160,3160,3156,7,0,0,0,0,7,0,0,0,7,7,0,6,3160,16,16,16,0,16,4,16,0,34,34,34,0,34,1,34,0,3157,0,0,0,3158,0,3158,0,3158,3158,16,16,3158,3158,3158,3158,3158,3160,3160,3156,7,0,0,0,0,7,0,0,0,7,7,0,6,3160,16,16,16,0,16,4,16,0,47,47,47,0,47,1,47,0,3157,0,0,0,3158,0,3158,0,3158,3158,16,16,3158,3158,3158,3158,3158,3160,3160,3156,7,0,0,0,0,7,0,0,0,7,7,0,6,3160,16,16,16,0,16,4,16,0,60,60,60,0,60,1,60,0,3157,0,0,0,3158,0,3158,0,3158,3158,16,16,3158,3158,3158,3162,3160,3160,3160,3159,3163,3159,0,3159,11,3159,3163,0,3155,0,0,0,0,3164,3164,0,0,0,0,3164,0,0,0,0,0,0,0,0,0,3164,0,0,3165,4,12,3165,0,3165,0,3165,0,3165,3165,3165,3165,3167,3167,0,0,3167,0,0,0,0,0,0,3167,0,0,0,0,0,3165,0,3165,0,3165,3165,3165,3165,3167,3167,0,0,3167,0,0,0,0,0,0,3167,0,0,0,0,0,3165,0,3165,0,3165,3165,3165,3165,3169,3167,3167,3167,3166,3170,3166,0,3166,11,3166,3170,3164,3156,7,0,0,0,0,7,0,0,0,7,7,0,6,21,21,0,21,2,21,0,0,0,0,0,0,0,0,0,0,0,0,0,0,0,0,0,0,0,0,0,0,0,0,0,0,0,0,0,0,0,3172,0,3172,0,0,0,0,0,0,0,0,3173,3173,3173,3173,3173,3173,0,0,0,0,0,0,0,3173,0,0,0,0,0,0,3174,3174,0,3174,0,0,3172,3172,0,3174,3174,3174,3174,3174,3174,3174,3174,0,3174,0,3174,3174,3174,0,0,0,0,3172,0,3173,3175,0,3175,3172,0,0,3172,3172,3172,3173,3173,3172,0,0,0,0,3172,0,0,3172,0,3172,0,0,0,3172,0,3172,3177,3177,3177,3173,3173,3172,0,0,0,0,3172,0,0,3172,0,3172,0,0,0,3172,0,3177,3177,3177,3172,3172,0,3172,3172,0,3172,3172,3155,3155,3154,3154,3153,3153,1,3172,3172,3172,3178,3178,3172,3178,3178,3178,3154,3172,3172,3172,3179,3179,3172,3179,3179,3179,3153,3172,3172,3172,3180,3180,0,0,0,0,0,3172,0,0,3172,3180,3180,3153,3153,3153,3172,0,0,0,0,0,0,0,3172,0,0,3172,0,0,0,3172,3172,0,3177,3153,3153,3153,3153,1,0,0]
noncomputable def ceA2_30 : List Nat := [3149,3149,3149,0,3149,0,3149,3098,3098,3098,0,3098,0,3150,3150,0,3150,0,3150,3150,3098,3150,3150,3150,0,3150,0,3150,3150,3098,3150,3150,3150,0,3150,0,3150,3150,3098,3150,3150,3152,1,1,1,1,0,1,0,0,0,0,3153,3153,0,0,3153,3097,0,3097,1282,0,0,0,3053,0,0,0,0,3156,3156,3157,3157,3155,3155,0,0,3157,3156,7,0,0,0,0,7,0,0,0,7,7,0,6,21,21,0,21,2,21,3156,7,0,0,0,0,7,0,0,0,7,7,0,6,16,16,0,16,0,16,16,16,3158,4,12,3158,0,3158,0,3158,0,3158,3158,16,16,3158,3158,3158,3158,3158,3160,3160,3156,7,0,0,0,0,7,0,0,0,7,7,0,6,3160,16,16,16,0,16,4,16,0,34,34,34,0,34,1,34,0,3157,0,0,0,3158,0,3158,0,3158,3158,16,16,3158,3158,3158,3158,3158,3160,3160,3156,7,0,0,0,0,7,0,0,0,7,7,0,6,3160,16,16,16,0,16,4,16,0,47,47,47,0,47,1,47,0,3157,0,0,0,3158,0,3158,0,3158,3158,16,16,3158,3158,3158,3158,3158,3160,3160,3156,7,0,0,0,0,7,0,0,0,7,7,0,6,3160,16,16,16,0,16,4,16,0,60,60,60,0,60,1,60,0,3157,0,0,0,3158,0,3158,0,3158,3158,16,16,3158,3158,3158,3162,3160,3160,3160,3159,3163,3159,0,3159,11,3159,3163,0,3155,0,0,0,0,3164,3164,0,0,0,0,3164,0,0,0,0,0,0,0,0,0,3164,0,0,3165,4,12,3165,0,3165,0,3165,0,3165,3165,3165,3165,3167,3167,0,0,3167,0,0,0,0,0,0,3167,0,0,0,0,0,3165,0,3165,0,3165,3165,3165,3165,3167,3167,0,0,3167,0,0,0,0,3167,0,3166,0,3166,3166,3166,0,3165,0,3165,0,3165,3165,3165,3165,3167,3167,0,0,3167,0,0,0,0,0,0,3167,0,0,0,0,0,3165,0,3165,0,3165,3165,3165,3165,3169,3167,3167,3167,3166,3170,3166,0,3166,11,3166,3170,0,0,0,0,0,0,0,0,0,0,0,0,0,0,0,0,0,0,0,0,0,0,0,0,0,0,0,0,0,0,0,3172,0,3172,0,0,0,0,0,0,0,0,3173,3173,3173,3173,3173,3173,0,0,0,0,0,0,0,3173,0,0,0,0,0,0,3174,3174,0,3174,0,0,3172,3172,0,3174,3174,3174,3174,3174,3174,3174,3174,0,3174,0,3174,3174,3174,0,0,0,0,3172,0,3173,3175,0,3175,3172,0,0,3172,3172,3172,3173,3173,3172,0,0,0,0,3172,0,0,3172,0,3172,0,0,0,3172,0,3172,3177,3177,3177,3173,3173,3172,0,0,0,0,3172,0,0,3172,0,3172,0,0,0,3172,0,3177,3177,3177,3172,3172,0,3172,3172,0,3172,3172,3164,3164,3155,3155,3154,3154,3153,3153,1,3172,3172,3172,3178,3178,3172,3178,3178,3178,3155,3172,3172,3172,3179,3179,3172,3179,3179,3179,3154,3172,3172,3172,3180,3180,3172,3180,3180,3180,3153,3172,3172,3172,3181,3181,0,0,0,0,0,3172,0,0,3172,3181,3181,3153,3153,3153,3172,0,0,0,0,0,0,0,3172,0,0,3172,0,0,0,3172,3172,0,3177,3153,3153,3153,3153,1,0,0]
noncomputable def ceA2_31 : List Nat := [3149,3149,3149,0,3149,0,3149,3101,3101,3101,0,3101,0,3150,3150,0,3150,0,3150,3150,3101,3150,3150,3150,0,3150,0,3150,3150,3101,3150,3150,3150,0,3150,0,3150,3150,3101,3150,3150,3152,1,1,1,1,0,1,0,0,0,0,3153,3153,0,0,3153,3100,0,3100,1291,0,0,0,3053,0,0,0,0,3156,3156,3157,3157,0,0,3157,3156,7,0,0,0,0,7,0,0,0,7,7,0,6,21,21,0,21,2,21,3156,7,0,0,0,0,7,0,0,0,7,7,0,6,16,16,0,16,0,16,16,16,3158,4,12,3158,0,3158,0,3158,0,3158,3158,16,16,3158,3158,3158,3158,3158,3160,3160,3156,7,0,0,0,0,7,0,0,0,7,7,0,6,3160,16,16,16,0,16,4,16,0,34,34,34,0,34,1,34,0,3157,0,0,0,3158,0,3158,0,3158,3158,16,16,3158,3158,3158,3158,3158,3160,3160,3156,7,0,0,0,0,7,0,0,0,7,7,0,6,3160,16,16,16,0,16,4,16,0,47,47,47,0,47,1,47,0,3157,0,0,3160,0,3159,0,3159,3159,3159,0,3158,0,3158,0,3158,3158,16,16,3158,3158,3158,3158,3158,3160,3160,3156,7,0,0,0,0,7,0,0,0,7,7,0,6,3160,16,16,16,0,16,4,16,0,60,60,60,0,60,1,60,0,3157,0,0,0,3158,0,3158,0,3158,3158,16,16,3158,3158,3158,3162,3160,3160,3160,3159,3163,3159,0,3159,11,3159,3163,0,0,0,0,0,0,0,0,0,0,0,0,0,0,0,0,0,0,0,0,0,0,0,0,0,0,0,0,0,0,0,3165,0,3165,0,0,0,0,0,0,0,0,3166,3166,3166,3166,3166,3166,0,0,0,0,0,0,0,3166,0,0,0,0,0,0,3167,3167,0,3167,0,0,3165,3165,0,3167,3167,3167,3167,3167,3167,3167,3167,0,3167,0,3167,3167,3167,0,0,0,0,3165,0,3166,3168,0,3168,3165,0,0,3165,3165,3165,3166,3166,3165,0,0,0,0,3165,0,0,3165,0,3165,0,0,0,3165,0,3165,3170,3170,3170,3166,3166,3165,0,0,0,0,3165,0,0,3165,0,3165,0,0,0,3165,0,3170,3170,3170,3165,3165,0,3165,3165,0,3165,3165,3155,3155,3154,3154,3153,3153,1,3165,3165,3165,3171,3171,3165,3171,3171,3171,3154,3165,3165,3165,3172,3172,3165,3172,3172,3172,3153,3165,3165,3165,3173,3173,0,0,0,0,0,3165,0,0,3165,3173,3173,3153,3153,3153,3165,0,0,0,0,0,0,0,3165,0,0,3165,0,0,0,3165,3165,0,3170,3153,3153,3153,3153,1,0,0]
noncomputable def ceA2_32 : List Nat := [3149,3149,3149,0,3149,0,3149,3104,3104,3104,0,3104,0,3150,3150,0,3150,0,3150,3150,3104,3150,3150,3150,0,3150,0,3150,3150,3104,3150,3150,3150,0,3150,0,3150,3150,3104,3150,3150,3152,1,1,1,1,0,1,0,0,0,0,3153,3153,0,0,3153,3103,0,3103,1300,0,0,0,3053,0,0,0,0,3156,3156,3157,3157,3155,3155,0,0,3157,3156,7,0,0,0,0,7,0,0,0,7,7,0,6,21,21,0,21,2,21,3156,7,0,0,0,0,7,0,0,0,7,7,0,6,16,16,0,16,0,16,16,16,3158,4,12,3158,0,3158,0,3158,0,3158,3158,16,16,3158,3158,3158,3158,3158,3160,3160,3156,7,0,0,0,0,7,0,0,0,7,7,0,6,3160,16,16,16,0,16,4,16,0,34,34,34,0,34,1,34,0,3157,0,0,0,3158,0,3158,0,3158,3158,16,16,3158,3158,3158,3158,3158,3160,3160,3156,7,0,0,0,0,7,0,0,0,7,7,0,6,3160,16,16,16,0,16,4,16,0,47,47,47,0,47,1,47,0,3157,0,0,3160,0,3159,0,3159,3159,3159,0,3158,0,3158,0,3158,3158,16,16,3158,3158,3158,3158,3158,3160,3160,3156,7,0,0,0,0,7,0,0,0,7,7,0,6,3160,16,16,16,0,16,4,16,0,60,60,60,0,60,1,60,0,3157,0,0,0,3158,0,3158,0,3158,3158,16,16,3158,3158,3158,3162,3160,3160,3160,3159,3163,3159,0,3159,11,3159,3163,0,0,0,0,0,0,0,0,0,0,0,0,0,0,0,0,0,0,0,0,0,0,0,0,0,0,0,0,0,0,0,3165,0,3165,0,0,0,0,0,0,0,0,3166,3166,3166,3166,3166,3166,0,0,0,0,0,0,0,3166,0,0,0,0,0,0,3167,3167,0,3167,0,0,3165,3165,0,3167,3167,3167,3167,3167,3167,3167,3167,0,3167,0,3167,3167,3167,0,0,0,0,3165,0,3166,3168,0,3168,3165,0,0,3165,3165,3165,3166,3166,3165,0,0,0,0,3165,0,0,3165,0,3165,0,0,0,3165,0,3165,3170,3170,3170,3166,3166,3165,0,0,0,0,3165,0,0,3165,0,3165,0,0,0,3165,0,3170,3170,3170,3165,3165,0,3165,3165,0,3165,3165,3155,3155,3154,3154,3153,3153,1,3165,3165,3165,3171,3171,3165,3171,3171,3171,3154,3165,3165,3165,3172,3172,3165,3172,3172,3172,3153,3165,3165,3165,3173,3173,0,0,0,0,0,3165,0,0,3165,3173,3173,3153,3153,3153,3165,0,0,0,0,0,0,0,3165,0,0,3165,0,0,0,3165,3165,0,3170,3153,3153,3153,3153,1,0,0]
noncomputable def ceA2_33 : List Nat := [3149,3149,3149,0,3149,0,3149,3111,3111,3111,0,3111,0,3150,3150,0,3150,0,3150,3150,3111,3150,3150,3150,0,3150,0,3150,3150,3111,3150,3150,3150,0,3150,0,3150,3150,3111,3150,3150,3152,1,1,1,1,0,1,0,0,0,0,3153,3153,0,0,3153,3110,0,3110,1313,0,0,0,3108,0,0,0,0,3155,3155,3155,3155,3155,3155,0,0,0,3155,3155,0,0,0,0,3157,3157,3157,3157,3157,3157,0,0,3157,3157,7,0,0,0,0,7,0,0,0,7,7,0,6,16,16,0,16,5,16,3157,7,0,0,0,0,7,0,0,0,7,7,0,6,3157,16,16,16,0,16,4,16,0,3157,3157,3157,60,60,60,0,60,1,60,3157,3156,3156,0,3156,8,3156,3157,3155,3155,0,3155,3155,0,0,0,0,3158,3158,3158,3158,0,0,3158,3158,3158,3158,3158,0,0,0,0,0,0,0,0,0,0,0,0,0,0,0,0,0,0,0,0,0,0,0,0,0,0,0,0,0,0,0,0,0,3160,0,3160,0,0,0,0,0,0,0,0,3161,3161,3161,3161,3161,3161,0,0,0,0,0,0,0,3161,0,0,0,0,0,0,3162,3162,0,3162,0,0,3160,3160,0,3162,3162,3162,3162,3162,3162,3162,3162,0,3162,0,3162,3162,3162,0,0,0,0,3160,0,3161,3163,0,3163,3160,0,0,3160,3160,3160,3161,3161,3160,0,0,0,0,3160,0,0,3160,0,3160,0,0,0,3160,0,3160,3165,3165,3165,3161,3161,3160,0,0,0,0,3160,0,0,3160,0,3160,0,0,0,3160,0,3165,3165,3165,3160,3160,0,3160,3160,0,3160,3160,3158,3158,3155,3155,3154,3154,3153,3153,1,3160,3160,3160,3166,3166,3160,3166,3166,3166,3155,3160,3160,3160,3167,3167,3160,3167,3167,3167,3154,3160,3160,3160,3168,3168,3160,3168,3168,3168,3153,3160,3160,3160,3169,3169,0,0,0,0,0,3160,0,0,3160,3169,3169,3153,3153,3153,3160,0,0,0,0,0,0,0,3160,0,0,3160,0,0,0,3160,3160,0,3165,3153,3153,3153,3153,1,0,0]
noncomputable def ceA2_34 : List Nat := [3149,3149,3149,0,3149,0,3149,3114,3114,3114,0,3114,0,3150,3150,0,3150,0,3150,3150,3114,3150,3150,3150,0,3150,0,3150,3150,3114,3150,3150,3150,0,3150,0,3150,3150,3114,3150,3150,3152,1,1,1,1,0,1,0,0,0,0,3153,3153,0,0,3153,3113,0,3113,1322,0,0,0,3108,0,0,0,0,0,0,3155,3155,3155,3155,3155,3155,3155,3155,0,0,0,3155,3155,0,0,0,0,3157,3157,3157,3157,3157,3157,0,0,3157,3157,7,0,0,0,0,7,0,0,0,7,7,0,6,16,16,0,16,5,16,3157,7,0,0,0,0,7,0,0,0,7,7,0,6,3157,16,16,16,0,16,4,16,0,3157,3157,3157,60,60,60,0,60,1,60,3157,3156,3156,0,3156,8,3156,3157,3155,3155,0,3155,3155,0,0,0,0,3158,3158,3158,3158,0,0,3158,3158,3158,3158,3158,0,0,0,0,0,0,0,0,0,0,0,0,0,0,0,0,0,0,0,0,0,0,0,0,0,0,0,0,0,0,0,0,0,0,0,3160,0,3160,0,0,0,0,0,0,0,0,3161,3161,3161,3161,3161,3161,0,0,0,0,0,0,0,3161,0,0,0,0,0,0,3162,3162,0,3162,0,0,3160,3160,0,3162,3162,3162,3162,3162,3162,3162,3162,0,3162,0,3162,3162,3162,0,0,0,0,3160,0,3161,3163,0,3163,3160,0,0,3160,3160,3160,3161,3161,3160,0,0,0,0,3160,0,0,3160,0,3160,0,0,0,3160,0,3160,3165,3165,3165,3161,3161,3160,0,0,0,0,3160,0,0,3160,0,3160,0,0,0,3160,0,3165,3165,3165,3160,3160,0,3160,3160,0,3160,3160,3158,3158,3155,3155,3154,3154,3153,3153,1,3160,3160,3160,3166,3166,3160,3166,3166,3166,3155,3160,3160,3160,3167,3167,3160,3167,3167,3167,3154,3160,3160,3160,3168,3168,3160,3168,3168,3168,3153,3160,3160,3160,3169,3169,0,0,0,0,0,3160,0,0,3160,3169,3169,3153,3153,3153,3160,0,0,0,0,0,0,0,3160,0,0,3160,0,0,0,3160,3160,0,3165,3153,3153,3153,3153,1,0,0]
noncomputable def ceA2_35 : List Nat := [3149,3149,3149,0,3149,0,3149,3117,3117,3117,0,3117,0,3150,3150,0,3150,0,3150,3150,3117,3150,3150,3150,0,3150,0,3150,3150,3117,3150,3150,3150,0,3150,0,3150,3150,3117,3150,3150,3152,1,1,1,1,0,1,0,0,0,0,3153,3153,0,0,3153,3116,0,3116,1331,0,0,0,3108,0,0,0,0,3155,3155,3155,3155,3155,3155,0,0,0,3155,3155,0,0,0,0,3157,3157,3157,3157,3157,3157,0,0,3157,3157,7,0,0,0,0,7,0,0,0,7,7,0,6,16,16,0,16,5,16,3157,7,0,0,0,0,7,0,0,0,7,7,0,6,3157,16,16,16,0,16,4,16,0,3157,3157,3157,60,60,60,0,60,1,60,3157,3156,3156,0,3156,8,3156,3157,3155,3155,0,3155,3155,0,0,0,0,3158,3158,3158,3158,0,0,3158,3158,3158,3158,3158,0,0,0,0,0,0,0,0,0,0,0,0,0,0,0,0,0,0,0,0,0,0,0,0,0,0,0,0,0,0,0,0,0,0,0,3160,0,3160,0,0,0,0,0,0,0,0,3161,3161,3161,3161,3161,3161,0,0,0,0,0,0,0,3161,0,0,0,0,0,0,3162,3162,0,3162,0,0,3160,3160,0,3162,3162,3162,3162,3162,3162,3162,3162,0,3162,0,3162,3162,3162,0,0,0,0,3160,0,3161,3163,0,3163,3160,0,0,3160,3160,3160,3161,3161,3160,0,0,0,0,3160,0,0,3160,0,3160,0,0,0,3160,0,3160,3165,3165,3165,3161,3161,3160,0,0,0,0,3160,0,0,3160,0,3160,0,0,0,3160,0,3165,3165,3165,3160,3160,0,3160,3160,0,3160,3160,3158,3158,3155,3155,3154,3154,3153,3153,1,3160,3160,3160,3166,3166,3160,3166,3166,3166,3155,3160,3160,3160,3167,3167,3160,3167,3167,3167,3154,3160,3160,3160,3168,3168,3160,3168,3168,3168,3153,3160,3160,3160,3169,3169,0,0,0,0,0,3160,0,0,3160,3169,3169,3153,3153,3153,3160,0,0,0,0,0,0,0,3160,0,0,3160,0,0,0,3160,3160,0,3165,3153,3153,3153,3153,1,0,0]
noncomputable def ceA2_36 : List Nat := [3149,3149,3149,0,3149,0,3149,3120,3120,3120,0,3120,0,3150,3150,0,3150,0,3150,3150,3120,3150,3150,3150,0,3150,0,3150,3150,3120,3150,3150,3150,0,3150,0,3150,3150,3120,3150,3150,3152,1,1,1,1,0,1,0,0,0,0,3153,3153,0,0,3153,3119,0,3119,1340,0,0,0,3108,0,0,0,0,3155,3155,3155,3155,3155,3155,3155,3155,0,0,0,3155,3155,0,0,0,0,3157,3157,3157,3157,3157,3157,0,0,3157,3157,7,0,0,0,0,7,0,0,0,7,7,0,6,16,16,0,16,5,16,3157,7,0,0,0,0,7,0,0,0,7,7,0,6,3157,16,16,16,0,16,4,16,0,3157,3157,3157,60,60,60,0,60,1,60,3157,3156,3156,0,3156,8,3156,3157,3155,3155,0,3155,3155,0,0,0,0,3158,3158,3158,3158,0,0,3158,3158,3158,3158,3158,0,0,0,0,0,0,0,0,0,0,0,0,0,0,0,0,0,0,0,0,0,0,0,0,0,0,0,0,0,0,0,0,0,3160,0,3160,0,0,0,0,0,0,0,0,3161,3161,3161,3161,3161,3161,0,0,0,0,0,0,0,3161,0,0,0,0,0,0,3162,3162,0,3162,0,0,3160,3160,0,3162,3162,3162,3162,3162,3162,3162,3162,0,3162,0,3162,3162,3162,0,0,0,0,3160,0,3161,3163,0,3163,3160,0,0,3160,3160,3160,3161,3161,3160,0,0,0,0,3160,0,0,3160,0,3160,0,0,0,3160,0,3160,3165,3165,3165,3161,3161,3160,0,0,0,0,3160,0,0,3160,0,3160,0,0,0,3160,0,3165,3165,3165,3160,3160,0,3160,3160,0,3160,3160,3158,3158,3155,3155,3154,3154,3153,3153,1,3160,3160,3160,3166,3166,3160,3166,3166,3166,3155,3160,3160,3160,3167,3167,3160,3167,3167,3167,3154,3160,3160,3160,3168,3168,3160,3168,3168,3168,3153,3160,3160,3160,3169,3169,0,0,0,0,0,3160,0,0,3160,3169,3169,3153,3153,3153,3160,0,0,0,0,0,0,0,3160,0,0,3160,0,0,0,3160,3160,0,3165,3153,3153,3153,3153,1,0,0]
noncomputable def ceA2_37 : List Nat := [3149,3149,3149,0,3149,0,3149,3123,3123,3123,0,3123,0,3150,3150,0,3150,0,3150,3150,3123,3150,3150,3150,0,3150,0,3150,3150,3123,3150,3150,3150,0,3150,0,3150,3150,3123,3150,3150,3152,1,1,1,1,0,1,0,0,0,0,3153,3153,0,0,3153,3122,0,3122,1349,0,0,0,3108,0,0,0,0,3155,3155,3155,3155,3155,3155,0,0,0,3155,3155,0,0,0,0,3157,3157,3157,3157,3157,3157,0,0,3157,3157,7,0,0,0,0,7,0,0,0,7,7,0,6,16,16,0,16,5,16,3157,7,0,0,0,0,7,0,0,0,7,7,0,6,3157,16,16,16,0,16,4,16,0,3157,3157,3157,60,60,60,0,60,1,60,3157,3156,3156,0,3156,8,3156,3157,3155,3155,0,3155,3155,0,0,0,0,3158,3158,3158,3158,0,0,3158,3158,3158,3158,3158,0,0,0,0,3158,3155,60,60,60,0,60,1,60,3155,7,0,0,0,0,7,0,0,0,7,7,0,6,3155,60,60,60,0,60,1,60,21,21,21,0,21,1,21,0,3159,3159,3159,0,3159,0,3160,3160,0,3160,0,3160,3160,3159,3160,3160,3160,0,3160,0,3160,3160,3159,3160,3160,3160,0,3160,0,3160,3160,3159,3160,3160,3160,0,3160,0,3160,3160,3159,3160,3160,3162,3155,3155,3155,3155,3155,3155,3155,0,0,3155,0,0,3155,3155,3155,0,0,3155,0,0,0,0,0,0,0,0,0,0,0,0,0,0,0,0,0,0,0,0,0,0,0,0,0,0,0,0,0,0,0,0,0,0,0,0,0,3164,0,3164,0,0,0,0,0,0,0,0,3165,3165,3165,3165,3165,3165,0,0,0,0,0,0,0,3165,0,0,0,0,0,0,3166,3166,0,3166,0,0,3164,3164,0,3166,3166,3166,3166,3166,3166,3166,3166,0,3166,0,3166,3166,3166,0,0,0,0,3164,0,3165,3167,0,3167,3164,0,0,3164,3164,3164,3165,3165,3164,0,0,0,0,3164,0,0,3164,0,3164,0,0,0,3164,0,3164,3169,3169,3169,3165,3165,3164,0,0,0,0,3164,0,0,3164,0,3164,0,0,0,3164,0,3169,3169,3169,3164,3164,0,3164,3164,0,3164,3164,3155,3155,3154,3154,3153,3153,1,3164,3164,3164,3170,3170,3164,3170,3170,3170,3154,3164,3164,3164,3171,3171,3164,3171,3171,3171,3153,3164,3164,3164,3172,3172,0,0,0,0,0,3164,0,0,3164,3172,3172,3153,3153,3153,3164,0,0,0,0,0,0,0,3164,0,0,3164,0,0,0,3164,3164,0,3169,3153,3153,3153,3153,1,0,0]
noncomputable def ceA2_38 : List Nat := [3149,3149,3149,0,3149,0,3149,3126,3126,3126,0,3126,0,3150,3150,0,3150,0,3150,3150,3126,3150,3150,3150,0,3150,0,3150,3150,3126,3150,3150,3150,0,3150,0,3150,3150,3126,3150,3150,3152,1,1,1,1,0,1,0,0,0,0,3153,3153,0,0,3153,3125,0,3125,1358,0,0,0,3108,0,0,0,0,3155,3155,3155,3155,3155,3155,0,0,0,3155,3155,0,0,0,0,3157,3157,3157,3157,3157,3157,0,0,3157,3157,7,0,0,0,0,7,0,0,0,7,7,0,6,16,16,0,16,5,16,3157,7,0,0,0,0,7,0,0,0,7,7,0,6,3157,16,16,16,0,16,4,16,0,3157,3157,3157,60,60,60,0,60,1,60,3157,3156,3156,0,3156,8,3156,3157,3155,3155,0,3155,3155,0,0,0,0,3158,3158,3158,3158,0,0,3158,3158,60,60,60,0,60,1,60,0,0,3158,3158,3158,0,0,0,0,3158,3155,60,60,60,0,60,1,60,3155,7,0,0,0,0,7,0,0,0,7,7,0,6,3155,60,60,60,0,60,1,60,21,21,21,0,21,1,21,0,3159,3159,3159,0,3159,0,3160,3160,0,3160,0,3160,3160,3159,3160,3160,3160,0,3160,0,3160,3160,3159,3160,3160,3160,0,3160,0,3160,3160,3159,3160,3160,3160,0,3160,0,3160,3160,3159,3160,3160,3162,3155,3155,3155,3155,3155,3155,3155,0,0,3155,0,0,3155,3155,3155,0,0,3155,0,0,0,0,0,0,0,0,0,0,0,0,0,0,0,0,0,0,0,0,0,0,0,0,0,0,0,0,0,0,0,0,0,0,0,0,0,3164,0,3164,0,0,0,0,0,0,0,0,3165,3165,3165,3165,3165,3165,0,0,0,0,0,0,0,3165,0,0,0,0,0,0,3166,3166,0,3166,0,0,3164,3164,0,3166,3166,3166,3166,3166,3166,3166,3166,0,3166,0,3166,3166,3166,0,0,0,0,3164,0,3165,3167,0,3167,3164,0,0,3164,3164,3164,3165,3165,3164,0,0,0,0,3164,0,0,3164,0,3164,0,0,0,3164,0,3164,3169,3169,3169,3165,3165,3164,0,0,0,0,3164,0,0,3164,0,3164,0,0,0,3164,0,3169,3169,3169,3164,3164,0,3164,3164,0,3164,3164,3155,3155,3154,3154,3153,3153,1,3164,3164,3164,3170,3170,3164,3170,3170,3170,3154,3164,3164,3164,3171,3171,3164,3171,3171,3171,3153,3164,3164,3164,3172,3172,0,0,0,0,0,3164,0,0,3164,3172,3172,3153,3153,3153,3164,0,0,0,0,0,0,0,3164,0,0,3164,0,0,0,3164,3164,0,3169,3153,3153,3153,3153,1,0,0]
noncomputable def ceA2_39 : List Nat := [3149,3149,3149,0,3149,0,3149,3129,3129,3129,0,3129,0,3150,3150,0,3150,0,3150,3150,3129,3150,3150,3150,0,3150,0,3150,3150,3129,3150,3150,3150,0,3150,0,3150,3150,3129,3150,3150,3152,1,1,1,1,0,1,0,0,0,0,3153,3153,0,0,3153,3128,0,3128,1367,0,0,0,3108,0,0,0,0,3155,3155,3155,3155,3155,3155,3155,3155,0,0,0,3155,3155,0,0,0,0,3157,3157,3157,3157,3157,3157,0,0,3157,3157,7,0,0,0,0,7,0,0,0,7,7,0,6,16,16,0,16,5,16,3157,7,0,0,0,0,7,0,0,0,7,7,0,6,3157,16,16,16,0,16,4,16,0,3157,3157,3157,60,60,60,0,60,1,60,3157,3156,3156,0,3156,8,3156,3157,3155,3155,0,3155,3155,0,0,0,0,3158,3158,3158,3158,0,0,3158,3158,3158,3158,3158,0,0,0,0,3158,3155,60,60,60,0,60,1,60,3155,7,0,0,0,0,7,0,0,0,7,7,0,6,3155,60,60,60,0,60,1,60,21,21,21,0,21,1,21,0,3159,3159,3159,0,3159,0,3160,3160,0,3160,0,3160,3160,3159,3160,3160,3160,0,3160,0,3160,3160,3159,3160,3160,3160,0,3160,0,3160,3160,3159,3160,3160,3160,0,3160,0,3160,3160,3159,3160,3160,3162,3155,3155,3155,3155,3155,3155,3155,0,0,3155,0,0,3155,3155,3155,3155,0,0,3155,0,0,0,0,0,0,0,0,0,0,0,0,0,0,0,0,0,0,0,0,0,0,0,0,0,0,0,0,0,0,0,0,0,3164,0,3164,0,0,0,0,0,0,0,0,3165,3165,3165,3165,3165,3165,0,0,0,0,0,0,0,3165,0,0,0,0,0,0,3166,3166,0,3166,0,0,3164,3164,0,3166,3166,3166,3166,3166,3166,3166,3166,0,3166,0,3166,3166,3166,0,0,0,0,3164,0,3165,3167,0,3167,3164,0,0,3164,3164,3164,3165,3165,3164,0,0,0,0,3164,0,0,3164,0,3164,0,0,0,3164,0,3164,3169,3169,3169,3165,3165,3164,0,0,0,0,3164,0,0,3164,0,3164,0,0,0,3164,0,3169,3169,3169,3164,3164,0,3164,3164,0,3164,3164,3155,3155,3154,3154,3153,3153,1,3164,3164,3164,3170,3170,3164,3170,3170,3170,3154,3164,3164,3164,3171,3171,3164,3171,3171,3171,3153,3164,3164,3164,3172,3172,0,0,0,0,0,3164,0,0,3164,3172,3172,3153,3153,3153,3164,0,0,0,0,0,0,0,3164,0,0,3164,0,0,0,3164,3164,0,3169,3153,3153,3153,3153,1,0,0]
noncomputable def ceA2_40 : List Nat := [3149,3149,3149,0,3149,0,3149,3132,3132,3132,0,3132,0,3150,3150,0,3150,0,3150,3150,3132,3150,3150,3150,0,3150,0,3150,3150,3132,3150,3150,3150,0,3150,0,3150,3150,3132,3150,3150,3152,1,1,1,1,0,1,0,0,0,0,3153,3153,0,0,3153,3131,0,3131,1376,0,0,0,3108,0,0,0,0,3155,3155,3155,3155,3155,3155,3155,3155,0,0,0,3155,3155,0,0,0,0,3157,3157,3157,3157,3157,3157,0,0,3157,3157,7,0,0,0,0,7,0,0,0,7,7,0,6,16,16,0,16,5,16,3157,7,0,0,0,0,7,0,0,0,7,7,0,6,3157,16,16,16,0,16,4,16,0,3157,3157,3157,60,60,60,0,60,1,60,3157,3156,3156,0,3156,8,3156,3157,3155,3155,0,3155,3155,0,0,0,0,3158,3158,3158,3158,0,0,3158,3158,60,60,60,0,60,1,60,0,0,3158,3158,3158,0,0,0,0,3158,3155,60,60,60,0,60,1,60,3155,7,0,0,0,0,7,0,0,0,7,7,0,6,3155,60,60,60,0,60,1,60,21,21,21,0,21,1,21,0,3159,3159,3159,0,3159,0,3160,3160,0,3160,0,3160,3160,3159,3160,3160,3160,0,3160,0,3160,3160,3159,3160,3160,3160,0,3160,0,3160,3160,3159,3160,3160,3160,0,3160,0,3160,3160,3159,3160,3160,3162,3155,3155,3155,3155,3155,3155,3155,0,0,3155,0,0,3155,3155,3155,3155,0,0,3155,0,0,0,0,0,0,0,0,0,0,0,0,0,0,0,0,0,0,0,0,0,0,0,0,0,0,0,0,0,0,0,0,0,3164,0,3164,0,0,0,0,0,0,0,0,3165,3165,3165,3165,3165,3165,0,0,0,0,0,0,0,3165,0,0,0,0,0,0,3166,3166,0,3166,0,0,3164,3164,0,3166,3166,3166,3166,3166,3166,3166,3166,0,3166,0,3166,3166,3166,0,0,0,0,3164,0,3165,3167,0,3167,3164,0,0,3164,3164,3164,3165,3165,3164,0,0,0,0,3164,0,0,3164,0,3164,0,0,0,3164,0,3164,3169,3169,3169,3165,3165,3164,0,0,0,0,3164,0,0,3164,0,3164,0,0,0,3164,0,3169,3169,3169,3164,3164,0,3164,3164,0,3164,3164,3155,3155,3154,3154,3153,3153,1,3164,3164,3164,3170,3170,3164,3170,3170,3170,3154,3164,3164,3164,3171,3171,3164,3171,3171,3171,3153,3164,3164,3164,3172,3172,0,0,0,0,0,3164,0,0,3164,3172,3172,3153,3153,3153,3164,0,0,0,0,0,0,0,3164,0,0,3164,0,0,0,3164,3164,0,3169,3153,3153,3153,3153,1,0,0]
noncomputable def ceA2_41 : List Nat := [3149,3149,3149,0,3149,0,3149,3135,3135,3135,0,3135,0,3150,3150,0,3150,0,3150,3150,3135,3150,3150,3150,0,3150,0,3150,3150,3135,3150,3150,3150,0,3150,0,3150,3150,3135,3150,3150,3152,1,1,1,1,0,1,0,0,0,0,3153,3153,0,0,3153,3134,0,3134,1385,0,0,0,3108,0,0,0,0,3155,3155,3155,3155,3155,3155,0,0,0,3155,3155,0,0,0,0,3157,3157,3157,3157,3157,3157,0,0,3157,3157,7,0,0,0,0,7,0,0,0,7,7,0,6,16,16,0,16,5,16,3157,7,0,0,0,0,7,0,0,0,7,7,0,6,3157,16,16,16,0,16,4,16,0,3157,3157,3157,34,34,34,0,34,1,34,3157,3156,3156,0,3156,8,3156,0,0,0,0,0,0,0,0,0,0,0,0,0,0,0,0,0,0,0,0,0,0,0,0,0,0,0,0,0,0,0,3159,0,3159,0,0,0,0,0,0,0,0,3160,3160,3160,3160,3160,3160,0,0,0,0,0,0,0,3160,0,0,0,0,0,0,3161,3161,0,3161,0,0,3159,3159,0,3161,3161,3161,3161,3161,3161,3161,3161,0,3161,0,3161,3161,3161,0,0,0,0,3159,0,3160,3162,0,3162,3159,0,0,3159,3159,3159,3160,3160,3159,0,0,0,0,3159,0,0,3159,0,3159,0,0,0,3159,0,3159,3164,3164,3164,3160,3160,3159,0,0,0,0,3159,0,0,3159,0,3159,0,0,0,3159,0,3164,3164,3164,3159,3159,0,3159,3159,0,3159,3159,3157,3157,3155,3155,3154,3154,3153,3153,1,3159,3159,3159,3165,3165,3159,3165,3165,3165,3155,3159,3159,3159,3166,3166,3159,3166,3166,3166,3154,3159,3159,3159,3167,3167,3159,3167,3167,3167,3153,3159,3159,3159,3168,3168,0,0,0,0,0,3159,0,0,3159,3168,3168,3153,3153,3153,3159,0,0,0,0,0,0,0,3159,0,0,3159,0,0,0,3159,3159,0,3164,3153,3153,3153,3153,1,0,0]
noncomputable def ceA2_42 : List Nat := [3149,3149,3149,0,3149,0,3149,3138,3138,3138,0,3138,0,3150,3150,0,3150,0,3150,3150,3138,3150,3150,3150,0,3150,0,3150,3150,3138,3150,3150,3150,0,3150,0,3150,3150,3138,3150,3150,3152,1,1,1,1,0,1,0,0,0,0,3153,3153,0,0,3153,3137,0,3137,1394,0,0,0,3108,0,0,0,0,3155,3155,3155,3155,3155,3155,3155,3155,0,0,0,3155,3155,0,0,0,0,3157,3157,3157,3157,3157,3157,0,0,3157,3157,7,0,0,0,0,7,0,0,0,7,7,0,6,16,16,0,16,0,0,0,16,0,0,0,0,0,0,0,0,0,0,0,0,0,0,0,0,0,0,0,0,0,0,0,0,0,0,0,0,0,0,0,3159,0,3159,0,0,0,0,0,0,0,0,3160,3160,3160,3160,3160,3160,0,0,0,0,0,0,0,3160,0,0,0,0,0,0,3161,3161,0,3161,0,0,3159,3159,0,3161,3161,3161,3161,3161,3161,3161,3161,0,3161,0,3161,3161,3161,0,0,0,0,3159,0,3160,3162,0,3162,3159,0,0,3159,3159,3159,3160,3160,3159,0,0,0,0,3159,0,0,3159,0,3159,0,0,0,3159,0,3159,3164,3164,3164,3160,3160,3159,0,0,0,0,3159,0,0,3159,0,3159,0,0,0,3159,0,3164,3164,3164,3159,3159,0,3159,3159,0,3159,3159,3157,3157,3155,3155,3154,3154,3153,3153,1,3159,3159,3159,3165,3165,3159,3165,3165,3165,3155,3159,3159,3159,3166,3166,3159,3166,3166,3166,3154,3159,3159,3159,3167,3167,3159,3167,3167,3167,3153,3159,3159,3159,3168,3168,0,0,0,0,0,3159,0,0,3159,3168,3168,3153,3153,3153,3159,0,0,0,0,0,0,0,3159,0,0,3159,0,0,0,3159,3159,0,3164,3153,3153,3153,3153,1,0,0]
noncomputable def ceA2_43 : List Nat := [3149,3149,3149,0,3149,0,3149,3141,3141,3141,0,3141,0,3150,3150,0,3150,0,3150,3150,3141,3150,3150,3150,0,3150,0,3150,3150,3141,3150,3150,3150,0,3150,0,3150,3150,3141,3150,3150,3152,1,1,1,1,0,1,0,0,0,0,3153,3153,0,0,3153,3140,0,3140,1403,0,0,0,3108,0,0,0,0,3158,3158,3158,3158,3158,3158,0,0,0,3158,3158,0,0,0,0,3160,3160,3160,3160,3160,3160,0,0,3160,3160,7,0,0,0,0,7,0,0,0,7,7,0,6,16,16,0,16,5,16,3160,7,0,0,0,0,7,0,0,0,7,7,0,6,3160,16,16,16,0,16,4,16,0,3160,3160,3160,60,60,60,0,60,1,60,3160,3159,3159,0,3159,8,3159,3160,3158,3158,3158,3157,3157,0,3157,0,3161,4,12,3161,0,3161,0,3161,0,3161,3161,3157,3161,3161,3161,3155,3155,3155,0,3155,0,3164,3164,0,3164,0,3164,3164,3155,3164,3164,3164,0,3164,0,3164,3164,3155,3164,3164,3164,0,3164,0,3164,3164,3155,3164,3164,3166,3163,3163,3163,3163,3163,0,0,0,3161,0,3161,0,3161,3161,3157,3161,3161,3161,3156,3156,3156,0,3156,0,3167,3167,0,3167,0,3167,3167,3156,3167,3167,3167,0,3167,0,3167,3167,3156,3167,3167,3167,0,3167,0,3167,3167,3156,3167,3167,3169,3163,3163,3163,3163,3163,0,0,0,3161,0,3161,0,3161,3161,3157,3161,3161,3171,3163,3163,3163,3163,3163,3163,3162,3172,3162,0,3162,11,3162,3172,0,0,3158,3157,3157,0,3157,0,3173,4,12,3173,0,3173,0,3173,0,3173,3173,3157,3173,3173,3173,3155,3155,3155,0,3155,0,3176,3176,0,3176,0,3176,3176,3155,3176,3176,3176,0,3176,0,3176,3176,3155,3176,3176,3176,0,3176,0,3176,3176,3155,3176,3176,3178,3175,3175,3175,3175,3175,0,3174,0,3174,3174,3174,0,3173,0,3173,0,3173,3173,3157,3173,3173,3173,3156,3156,3156,0,3156,0,3179,3179,0,3179,0,3179,3179,3156,3179,3179,3179,0,3179,0,3179,3179,3156,3179,3179,3179,0,3179,0,3179,3179,3156,3179,3179,3181,3175,3175,3175,3175,3175,0,3174,0,3174,3174,3174,0,3173,0,3173,0,3173,3173,3157,3173,3173,3183,3175,3175,3175,3175,3175,3175,0,0,3174,3174,0,3174,0,3184,0,3185,3184,0,3184,0,3184,3184,3174,3184,3184,3185,3185,3185,0,3185,3184,0,3184,0,3184,3184,3174,3184,3184,3185,3185,3185,0,3185,3184,0,3184,0,3184,3184,3174,3184,3184,3187,3158,60,60,60,0,60,1,60,0,0,0,0,0,0,0,0,0,0,0,0,0,0,0,0,0,0,0,0,0,0,0,0,0,0,0,0,0,0,0,0,0,3189,0,3189,0,0,0,0,0,0,0,0,3190,3190,3190,3190,3190,3190,0,0,0,0,0,0,0,3190,0,0,0,0,0,0,3191,3191,0,3191,0,0,3189,3189,0,3191,3191,3191,3191,3191,3191,3191,3191,0,3191,0,3191,3191,3191,0,0,0,0,3189,0,3190,3192,0,3192,3189,0,0,3189,3189,3189,3190,3190,3189,0,0,0,0,3189,0,0,3189,0,3189,0,0,0,3189,0,3189,3194,3194,3194,3190,3190,3189,0,0,0,0,3189,0,0,3189,0,3189,0,0,0,3189,0,3194,3194,3194,3189,3189,0,3189,3189,0,3189,3189,3158,3158,3154,3154,3153,3153,1,3189,3189,3189,3195,3195,3189,3195,3195,3195,3154,3189,3189,3189,3196,3196,3189,3196,3196,3196,3153,3189,3189,3189,3197,3197,0,0,0,0,0,3189,0,0,3189,3197,3197,3153,3153,3153,3189,0,0,0,0,0,0,0,3189,0,0,3189,0,0,0,3189,3189,0,3194,3153,3153,3153,3153,1,0,0]
noncomputable def ceA2_44 : List Nat := [3149,3149,3149,0,3149,0,3149,3144,3144,3144,0,3144,0,3150,3150,0,3150,0,3150,3150,3144,3150,3150,3150,0,3150,0,3150,3150,3144,3150,3150,3150,0,3150,0,3150,3150,3144,3150,3150,3152,1,1,1,1,0,1,0,0,0,0,3153,3153,0,0,3153,3143,0,3143,1412,0,0,0,3108,0,0,0,0,0,0,3158,3158,3158,3158,3158,3158,0,0,0,3158,3158,0,0,0,0,3160,3160,3160,3160,3160,3160,0,0,3160,3160,7,0,0,0,0,7,0,0,0,7,7,0,6,16,16,0,16,5,16,3160,7,0,0,0,0,7,0,0,0,7,7,0,6,3160,16,16,16,0,16,4,16,0,3160,3160,3160,60,60,60,0,60,1,60,3160,3159,3159,0,3159,8,3159,3160,3158,3158,3158,3157,3157,0,3157,0,3161,4,12,3161,0,3161,0,3161,0,3161,3161,3157,3161,3161,3161,3155,3155,3155,0,3155,0,3164,3164,0,3164,0,3164,3164,3155,3164,3164,3164,0,3164,0,3164,3164,3155,3164,3164,3164,0,3164,0,3164,3164,3155,3164,3164,3166,3163,3163,3163,3163,3163,0,0,0,3161,0,3161,0,3161,3161,3157,3161,3161,3161,3156,3156,3156,0,3156,0,3167,3167,0,3167,0,3167,3167,3156,3167,3167,3167,0,3167,0,3167,3167,3156,3167,3167,3167,0,3167,0,3167,3167,3156,3167,3167,3169,3163,3163,3163,3163,3163,0,0,3163,0,3162,0,3162,3162,3162,0,3161,0,3161,0,3161,3161,3157,3161,3161,3171,3163,3163,3163,3163,3163,3163,3162,3172,3162,0,3162,11,3162,3172,0,0,0,0,0,0,0,0,0,0,0,0,0,0,0,0,0,0,0,0,0,0,0,0,0,0,0,0,0,0,0,3174,0,3174,0,0,0,0,0,0,0,0,3175,3175,3175,3175,3175,3175,0,0,0,0,0,0,0,3175,0,0,0,0,0,0,3176,3176,0,3176,0,0,3174,3174,0,3176,3176,3176,3176,3176,3176,3176,3176,0,3176,0,3176,3176,3176,0,0,0,0,3174,0,3175,3177,0,3177,3174,0,0,3174,3174,3174,3175,3175,3174,0,0,0,0,3174,0,0,3174,0,3174,0,0,0,3174,0,3174,3179,3179,3179,3175,3175,3174,0,0,0,0,3174,0,0,3174,0,3174,0,0,0,3174,0,3179,3179,3179,3174,3174,0,3174,3174,0,3174,3174,3158,3158,3154,3154,3153,3153,1,3174,3174,3174,3180,3180,3174,3180,3180,3180,3154,3174,3174,3174,3181,3181,3174,3181,3181,3181,3153,3174,3174,3174,3182,3182,0,0,0,0,0,3174,0,0,3174,3182,3182,3153,3153,3153,3174,0,0,0,0,0,0,0,3174,0,0,3174,0,0,0,3174,3174,0,3179,3153,3153,3153,3153,1,0,0]
noncomputable def ceA2_45 : List Nat := [3149,3149,3149,0,3149,0,3149,3147,3147,3147,0,3147,0,3150,3150,0,3150,0,3150,3150,3147,3150,3150,3150,0,3150,0,3150,3150,3147,3150,3150,3150,0,3150,0,3150,3150,3147,3150,3150,3152,1,1,1,1,0,1,0,0,0,0,3153,3153,0,0,3153,3146,0,3146,1421,0,0,0,3108,0,0,0,0,3157,3157,3157,3157,3157,3157,0,0,0,3157,3157,0,0,0,0,3159,3159,3159,3159,3159,3159,0,0,3159,3159,7,0,0,0,0,7,0,0,0,7,7,0,6,16,16,0,16,5,16,3159,7,0,0,0,0,7,0,0,0,7,7,0,6,3159,16,16,16,0,16,4,16,0,3159,3159,3159,47,47,47,0,47,1,47,3159,3158,3158,0,3158,8,3158,0,0,0,0,0,0,0,0,0,0,0,0,0,0,0,0,0,0,0,0,0,0,0,0,0,0,0,0,0,0,0,3161,0,3161,0,0,0,0,0,0,0,0,3162,3162,3162,3162,3162,3162,0,0,0,0,0,0,0,3162,0,0,0,0,0,0,3163,3163,0,3163,0,0,3161,3161,0,3163,3163,3163,3163,3163,3163,3163,3163,0,3163,0,3163,3163,3163,0,0,0,0,3161,0,3162,3164,0,3164,3161,0,0,3161,3161,3161,3162,3162,3161,0,0,0,0,3161,0,0,3161,0,3161,0,0,0,3161,0,3161,3166,3166,3166,3162,3162,3161,0,0,0,0,3161,0,0,3161,0,3161,0,0,0,3161,0,3166,3166,3166,3161,3161,0,3161,3161,0,3161,3161,3159,3159,3157,3157,3154,3154,3153,3153,1,3161,3161,3161,3167,3167,3161,3167,3167,3167,3157,3161,3161,3161,3168,3168,3161,3168,3168,3168,3154,3161,3161,3161,3169,3169,3161,3169,3169,3169,3153,3161,3161,3161,3170,3170,0,0,0,0,0,3161,0,0,3161,3170,3170,3153,3153,3153,3161,0,0,0,0,0,0,0,3161,0,0,3161,0,0,0,3161,3161,0,3166,3153,3153,3153,3153,1,0,0]
set_option maxHeartbeats 0 in
theorem tb2_g0 (w : World) (sc : Obj) (d2 : Option Addr) (vs2 : Array Value) (n2 : Nat) (sl2 : Array (Option Value)) (p pF p0 : Pos) (A U B U2 : Nat → Nat) (I : Nat) (fv : Value) (c r k1 k2 k3 k4 : Nat) (vt ve vc vd : Value) (ts as : Nat → Nat) (t tt v0 : Nat) (ts2 as2 : Nat → Nat) :
    finL (stL2 w.params A U B U2 I (listO d2 vs2 n2 sl2) (.int (.ofNat t) tt) (c + 1) r k1 k2 k3 k4 (dval (tb2 w sc p pF p0 A B I (stL2 w.params A U B U2 I (listO d2 vs2 n2 sl2) fv c (r + 1) k1 k2 k3 k4 vt ve vc vd) ts as 0 t tt v0 ts2 as2 ceA2_0) 4) (dval (tb2 w sc p pF p0 A B I (stL2 w.params A U B U2 I (listO d2 vs2 n2 sl2) fv c (r + 1) k1 k2 k3 k4 vt ve vc vd) ts as 0 t tt v0 ts2 as2 ceA2_0) 5) (dval (tb2 w sc p pF p0 A B I (stL2 w.params A U B U2 I (listO d2 vs2 n2 sl2) fv c (r + 1) k1 k2 k3 k4 vt ve vc vd) ts as 0 t tt v0 ts2 as2 ceA2_0) 6) (dval (tb2 w sc p pF p0 A B I (stL2 w.params A U B U2 I (listO d2 vs2 n2 sl2) fv c (r + 1) k1 k2 k3 k4 vt ve vc vd) ts as 0 t tt v0 ts2 as2 ceA2_0) 7)) (tb2 w sc p pF p0 A B I (stL2 w.params A U B U2 I (listO d2 vs2 n2 sl2) fv c (r + 1) k1 k2 k3 k4 vt ve vc vd) ts as 0 t tt v0 ts2 as2 ceA2_0) = finR (stL2 w.params A U B U2 I (listO d2 vs2 n2 sl2) (.int (.ofNat t) tt) (c + 1) r k1 k2 k3 k4 (dval (tb2 w sc p pF p0 A B I (stL2 w.params A U B U2 I (listO d2 vs2 n2 sl2) fv c (r + 1) k1 k2 k3 k4 vt ve vc vd) ts as 0 t tt v0 ts2 as2 ceA2_0) 4) (dval (tb2 w sc p pF p0 A B I (stL2 w.params A U B U2 I (listO d2 vs2 n2 sl2) fv c (r + 1) k1 k2 k3 k4 vt ve vc vd) ts as 0 t tt v0 ts2 as2 ceA2_0) 5) (dval (tb2 w sc p pF p0 A B I (stL2 w.params A U B U2 I (listO d2 vs2 n2 sl2) fv c (r + 1) k1 k2 k3 k4 vt ve vc vd) ts as 0 t tt v0 ts2 as2 ceA2_0) 6) (dval (tb2 w sc p pF p0 A B I (stL2 w.params A U B U2 I (listO d2 vs2 n2 sl2) fv c (r + 1) k1 k2 k3 k4 vt ve vc vd) ts as 0 t tt v0 ts2 as2 ceA2_0) 7)) (KB2 w sc B) (.ok (.ret .none)) (tb2 w sc p pF p0 A B I (stL2 w.params A U B U2 I (listO d2 vs2 n2 sl2) fv c (r + 1) k1 k2 k3 k4 vt ve vc vd) ts as 0 t tt v0 ts2 as2 ceA2_0) ∧
    finL (stL2 w.params A U B U2 I (listO d2 vs2 n2 sl2) (.int (.ofNat t) tt) (c + 1) r k1 k2 k3 k4 (dval (tb2 w sc p pF p0 A B I (stL2 w.params A U B U2 I (listO d2 vs2 n2 sl2) fv c (r + 1) k1 k2 k3 k4 vt ve vc vd) ts as 1 t tt v0 ts2 as2 ceA2_1) 4) (dval (tb2 w sc p pF p0 A B I (stL2 w.params A U B U2 I (listO d2 vs2 n2 sl2) fv c (r + 1) k1 k2 k3 k4 vt ve vc vd) ts as 1 t tt v0 ts2 as2 ceA2_1) 5) (dval (tb2 w sc p pF p0 A B I (stL2 w.params A U B U2 I (listO d2 vs2 n2 sl2) fv c (r + 1) k1 k2 k3 k4 vt ve vc vd) ts as 1 t tt v0 ts2 as2 ceA2_1) 6) (dval (tb2 w sc p pF p0 A B I (stL2 w.params A U B U2 I (listO d2 vs2 n2 sl2) fv c (r + 1) k1 k2 k3 k4 vt ve vc vd) ts as 1 t tt v0 ts2 as2 ceA2_1) 7)) (tb2 w sc p pF p0 A B I (stL2 w.params A U B U2 I (listO d2 vs2 n2 sl2) fv c (r + 1) k1 k2 k3 k4 vt ve vc vd) ts as 1 t tt v0 ts2 as2 ceA2_1) = finR (stL2 w.params A U B U2 I (listO d2 vs2 n2 sl2) (.int (.ofNat t) tt) (c + 1) r k1 k2 k3 k4 (dval (tb2 w sc p pF p0 A B I (stL2 w.params A U B U2 I (listO d2 vs2 n2 sl2) fv c (r + 1) k1 k2 k3 k4 vt ve vc vd) ts as 1 t tt v0 ts2 as2 ceA2_1) 4) (dval (tb2 w sc p pF p0 A B I (stL2 w.params A U B U2 I (listO d2 vs2 n2 sl2) fv c (r + 1) k1 k2 k3 k4 vt ve vc vd) ts as 1 t tt v0 ts2 as2 ceA2_1) 5) (dval (tb2 w sc p pF p0 A B I (stL2 w.params A U B U2 I (listO d2 vs2 n2 sl2) fv c (r + 1) k1 k2 k3 k4 vt ve vc vd) ts as 1 t tt v0 ts2 as2 ceA2_1) 6) (dval (tb2 w sc p pF p0 A B I (stL2 w.params A U B U2 I (listO d2 vs2 n2 sl2) fv c (r + 1) k1 k2 k3 k4 vt ve vc vd) ts as 1 t tt v0 ts2 as2 ceA2_1) 7)) (KB2 w sc B) (.ok (.ret .none)) (tb2 w sc p pF p0 A B I (stL2 w.params A U B U2 I (listO d2 vs2 n2 sl2) fv c (r + 1) k1 k2 k3 k4 vt ve vc vd) ts as 1 t tt v0 ts2 as2 ceA2_1) ∧
    finL (stL2 w.params A U B U2 I (listO d2 vs2 n2 sl2) (.int (.ofNat t) tt) (c + 1) r k1 k2 k3 k4 (dval (tb2 w sc p pF p0 A B I (stL2 w.params A U B U2 I (listO d2 vs2 n2 sl2) fv c (r + 1) k1 k2 k3 k4 vt ve vc vd) ts as 2 t tt v0 ts2 as2 ceA2_2) 4) (dval (tb2 w sc p pF p0 A B I (stL2 w.params A U B U2 I (listO d2 vs2 n2 sl2) fv c (r + 1) k1 k2 k3 k4 vt ve vc vd) ts as 2 t tt v0 ts2 as2 ceA2_2) 5) (dval (tb2 w sc p pF p0 A B I (stL2 w.params A U B U2 I (listO d2 vs2 n2 sl2) fv c (r + 1) k1 k2 k3 k4 vt ve vc vd) ts as 2 t tt v0 ts2 as2 ceA2_2) 6) (dval (tb2 w sc p pF p0 A B I (stL2 w.params A U B U2 I (listO d2 vs2 n2 sl2) fv c (r + 1) k1 k2 k3 k4 vt ve vc vd) ts as 2 t tt v0 ts2 as2 ceA2_2) 7)) (tb2 w sc p pF p0 A B I (stL2 w.params A U B U2 I (listO d2 vs2 n2 sl2) fv c (r + 1) k1 k2 k3 k4 vt ve vc vd) ts as 2 t tt v0 ts2 as2 ceA2_2) = finR (stL2 w.params A U B U2 I (listO d2 vs2 n2 sl2) (.int (.ofNat t) tt) (c + 1) r k1 k2 k3 k4 (dval (tb2 w sc p pF p0 A B I (stL2 w.params A U B U2 I (listO d2 vs2 n2 sl2) fv c (r + 1) k1 k2 k3 k4 vt ve vc vd) ts as 2 t tt v0 ts2 as2 ceA2_2) 4) (dval (tb2 w sc p pF p0 A B I (stL2 w.params A U B U2 I (listO d2 vs2 n2 sl2) fv c (r + 1) k1 k2 k3 k4 vt ve vc vd) ts as 2 t tt v0 ts2 as2 ceA2_2) 5) (dval (tb2 w sc p pF p0 A B I (stL2 w.params A U B U2 I (listO d2 vs2 n2 sl2) fv c (r + 1) k1 k2 k3 k4 vt ve vc vd) ts as 2 t tt v0 ts2 as2 ceA2_2) 6) (dval (tb2 w sc p pF p0 A B I (stL2 w.params A U B U2 I (listO d2 vs2 n2 sl2) fv c (r + 1) k1 k2 k3 k4 vt ve vc vd) ts as 2 t tt v0 ts2 as2 ceA2_2) 7)) (KB2 w sc B) (.ok (.ret .none)) (tb2 w sc p pF p0 A B I (stL2 w.params A U B U2 I (listO d2 vs2 n2 sl2) fv c (r + 1) k1 k2 k3 k4 vt ve vc vd) ts as 2 t tt v0 ts2 as2 ceA2_2) ∧
    finL (stL2 w.params A U B U2 I (listO d2 vs2 n2 sl2) (.int (.ofNat t) tt) (c + 1) r k1 k2 k3 k4 (dval (tb2 w sc p pF p0 A B I (stL2 w.params A U B U2 I (listO d2 vs2 n2 sl2) fv c (r + 1) k1 k2 k3 k4 vt ve vc vd) ts as 3 t tt v0 ts2 as2 ceA2_3) 4) (dval (tb2 w sc p pF p0 A B I (stL2 w.params A U B U2 I (listO d2 vs2 n2 sl2) fv c (r + 1) k1 k2 k3 k4 vt ve vc vd) ts as 3 t tt v0 ts2 as2 ceA2_3) 5) (dval (tb2 w sc p pF p0 A B I (stL2 w.params A U B U2 I (listO d2 vs2 n2 sl2) fv c (r + 1) k1 k2 k3 k4 vt ve vc vd) ts as 3 t tt v0 ts2 as2 ceA2_3) 6) (dval (tb2 w sc p pF p0 A B I (stL2 w.params A U B U2 I (listO d2 vs2 n2 sl2) fv c (r + 1) k1 k2 k3 k4 vt ve vc vd) ts as 3 t tt v0 ts2 as2 ceA2_3) 7)) (tb2 w sc p pF p0 A B I (stL2 w.params A U B U2 I (listO d2 vs2 n2 sl2) fv c (r + 1) k1 k2 k3 k4 vt ve vc vd) ts as 3 t tt v0 ts2 as2 ceA2_3) = finR (stL2 w.params A U B U2 I (listO d2 vs2 n2 sl2) (.int (.ofNat t) tt) (c + 1) r k1 k2 k3 k4 (dval (tb2 w sc p pF p0 A B I (stL2 w.params A U B U2 I (listO d2 vs2 n2 sl2) fv c (r + 1) k1 k2 k3 k4 vt ve vc vd) ts as 3 t tt v0 ts2 as2 ceA2_3) 4) (dval (tb2 w sc p pF p0 A B I (stL2 w.params A U B U2 I (listO d2 vs2 n2 sl2) fv c (r + 1) k1 k2 k3 k4 vt ve vc vd) ts as 3 t tt v0 ts2 as2 ceA2_3) 5) (dval (tb2 w sc p pF p0 A B I (stL2 w.params A U B U2 I (listO d2 vs2 n2 sl2) fv c (r + 1) k1 k2 k3 k4 vt ve vc vd) ts as 3 t tt v0 ts2 as2 ceA2_3) 6) (dval (tb2 w sc p pF p0 A B I (stL2 w.params A U B U2 I (listO d2 vs2 n2 sl2) fv c (r + 1) k1 k2 k3 k4 vt ve vc vd) ts as 3 t tt v0 ts2 as2 ceA2_3) 7)) (KB2 w sc B) (.ok (.ret .none)) (tb2 w sc p pF p0 A B I (stL2 w.params A U B U2 I (listO d2 vs2 n2 sl2) fv c (r + 1) k1 k2 k3 k4 vt ve vc vd) ts as 3 t tt v0 ts2 as2 ceA2_3) ∧
    finL (stL2 w.params A U B U2 I (listO d2 vs2 n2 sl2) (.int (.ofNat t) tt) (c + 1) r k1 k2 k3 k4 (dval (tb2 w sc p pF p0 A B I (stL2 w.params A U B U2 I (listO d2 vs2 n2 sl2) fv c (r + 1) k1 k2 k3 k4 vt ve vc vd) ts as 4 t tt v0 ts2 as2 ceA2_4) 4) (dval (tb2 w sc p pF p0 A B I (stL2 w.params A U B U2 I (listO d2 vs2 n2 sl2) fv c (r + 1) k1 k2 k3 k4 vt ve vc vd) ts as 4 t tt v0 ts2 as2 ceA2_4) 5) (dval (tb2 w sc p pF p0 A B I (stL2 w.params A U B U2 I (listO d2 vs2 n2 sl2) fv c (r + 1) k1 k2 k3 k4 vt ve vc vd) ts as 4 t tt v0 ts2 as2 ceA2_4) 6) (dval (tb2 w sc p pF p0 A B I (stL2 w.params A U B U2 I (listO d2 vs2 n2 sl2) fv c (r + 1) k1 k2 k3 k4 vt ve vc vd) ts as 4 t tt v0 ts2 as2 ceA2_4) 7)) (tb2 w sc p pF p0 A B I (stL2 w.params A U B U2 I (listO d2 vs2 n2 sl2) fv c (r + 1) k1 k2 k3 k4 vt ve vc vd) ts as 4 t tt v0 ts2 as2 ceA2_4) = finR (stL2 w.params A U B U2 I (listO d2 vs2 n2 sl2) (.int (.ofNat t) tt) (c + 1) r k1 k2 k3 k4 (dval (tb2 w sc p pF p0 A B I (stL2 w.params A U B U2 I (listO d2 vs2 n2 sl2) fv c (r + 1) k1 k2 k3 k4 vt ve vc vd) ts as 4 t tt v0 ts2 as2 ceA2_4) 4) (dval (tb2 w sc p pF p0 A B I (stL2 w.params A U B U2 I (listO d2 vs2 n2 sl2) fv c (r + 1) k1 k2 k3 k4 vt ve vc vd) ts as 4 t tt v0 ts2 as2 ceA2_4) 5) (dval (tb2 w sc p pF p0 A B I (stL2 w.params A U B U2 I (listO d2 vs2 n2 sl2) fv c (r + 1) k1 k2 k3 k4 vt ve vc vd) ts as 4 t tt v0 ts2 as2 ceA2_4) 6) (dval (tb2 w sc p pF p0 A B I (stL2 w.params A U B U2 I (listO d2 vs2 n2 sl2) fv c (r + 1) k1 k2 k3 k4 vt ve vc vd) ts as 4 t tt v0 ts2 as2 ceA2_4) 7)) (KB2 w sc B) (.ok (.ret .none)) (tb2 w sc p pF p0 A B I (stL2 w.params A U B U2 I (listO d2 vs2 n2 sl2) fv c (r + 1) k1 k2 k3 k4 vt ve vc vd) ts as 4 t tt v0 ts2 as2 ceA2_4) ∧
    finL (stL2 w.params A U B U2 I (listO d2 vs2 n2 sl2) (.int (.ofNat t) tt) (c + 1) r k1 k2 k3 k4 (dval (tb2 w sc p pF p0 A B I (stL2 w.params A U B U2 I (listO d2 vs2 n2 sl2) fv c (r + 1) k1 k2 k3 k4 vt ve vc vd) ts as 5 t tt v0 ts2 as2 ceA2_5) 4) (dval (tb2 w sc p pF p0 A B I (stL2 w.params A U B U2 I (listO d2 vs2 n2 sl2) fv c (r + 1) k1 k2 k3 k4 vt ve vc vd) ts as 5 t tt v0 ts2 as2 ceA2_5) 5) (dval (tb2 w sc p pF p0 A B I (stL2 w.params A U B U2 I (listO d2 vs2 n2 sl2) fv c (r + 1) k1 k2 k3 k4 vt ve vc vd) ts as 5 t tt v0 ts2 as2 ceA2_5) 6) (dval (tb2 w sc p pF p0 A B I (stL2 w.params A U B U2 I (listO d2 vs2 n2 sl2) fv c (r + 1) k1 k2 k3 k4 vt ve vc vd) ts as 5 t tt v0 ts2 as2 ceA2_5) 7)) (tb2 w sc p pF p0 A B I (stL2 w.params A U B U2 I (listO d2 vs2 n2 sl2) fv c (r + 1) k1 k2 k3 k4 vt ve vc vd) ts as 5 t tt v0 ts2 as2 ceA2_5) = finR (stL2 w.params A U B U2 I (listO d2 vs2 n2 sl2) (.int (.ofNat t) tt) (c + 1) r k1 k2 k3 k4 (dval (tb2 w sc p pF p0 A B I (stL2 w.params A U B U2 I (listO d2 vs2 n2 sl2) fv c (r + 1) k1 k2 k3 k4 vt ve vc vd) ts as 5 t tt v0 ts2 as2 ceA2_5) 4) (dval (tb2 w sc p pF p0 A B I (stL2 w.params A U B U2 I (listO d2 vs2 n2 sl2) fv c (r + 1) k1 k2 k3 k4 vt ve vc vd) ts as 5 t tt v0 ts2 as2 ceA2_5) 5) (dval (tb2 w sc p pF p0 A B I (stL2 w.params A U B U2 I (listO d2 vs2 n2 sl2) fv c (r + 1) k1 k2 k3 k4 vt ve vc vd) ts as 5 t tt v0 ts2 as2 ceA2_5) 6) (dval (tb2 w sc p pF p0 A B I (stL2 w.params A U B U2 I (listO d2 vs2 n2 sl2) fv c (r + 1) k1 k2 k3 k4 vt ve vc vd) ts as 5 t tt v0 ts2 as2 ceA2_5) 7)) (KB2 w sc B) (.ok (.ret .none)) (tb2 w sc p pF p0 A B I (stL2 w.params A U B U2 I (listO d2 vs2 n2 sl2) fv c (r + 1) k1 k2 k3 k4 vt ve vc vd) ts as 5 t tt v0 ts2 as2 ceA2_5) ∧
    finL (stL2 w.params A U B U2 I (listO d2 vs2 n2 sl2) (.int (.ofNat t) tt) (c + 1) r k1 k2 k3 k4 (dval (tb2 w sc p pF p0 A B I (stL2 w.params A U B U2 I (listO d2 vs2 n2 sl2) fv c (r + 1) k1 k2 k3 k4 vt ve vc vd) ts as 6 t tt v0 ts2 as2 ceA2_6) 4) (dval (tb2 w sc p pF p0 A B I (stL2 w.params A U B U2 I (listO d2 vs2 n2 sl2) fv c (r + 1) k1 k2 k3 k4 vt ve vc vd) ts as 6 t tt v0 ts2 as2 ceA2_6) 5) (dval (tb2 w sc p pF p0 A B I (stL2 w.params A U B U2 I (listO d2 vs2 n2 sl2) fv c (r + 1) k1 k2 k3 k4 vt ve vc vd) ts as 6 t tt v0 ts2 as2 ceA2_6) 6) (dval (tb2 w sc p pF p0 A B I (stL2 w.params A U B U2 I (listO d2 vs2 n2 sl2) fv c (r + 1) k1 k2 k3 k4 vt ve vc vd) ts as 6 t tt v0 ts2 as2 ceA2_6) 7)) (tb2 w sc p pF p0 A B I (stL2 w.params A U B U2 I (listO d2 vs2 n2 sl2) fv c (r + 1) k1 k2 k3 k4 vt ve vc vd) ts as 6 t tt v0 ts2 as2 ceA2_6) = finR (stL2 w.params A U B U2 I (listO d2 vs2 n2 sl2) (.int (.ofNat t) tt) (c + 1) r k1 k2 k3 k4 (dval (tb2 w sc p pF p0 A B I (stL2 w.params A U B U2 I (listO d2 vs2 n2 sl2) fv c (r + 1) k1 k2 k3 k4 vt ve vc vd) ts as 6 t tt v0 ts2 as2 ceA2_6) 4) (dval (tb2 w sc p pF p0 A B I (stL2 w.params A U B U2 I (listO d2 vs2 n2 sl2) fv c (r + 1) k1 k2 k3 k4 vt ve vc vd) ts as 6 t tt v0 ts2 as2 ceA2_6) 5) (dval (tb2 w sc p pF p0 A B I (stL2 w.params A U B U2 I (listO d2 vs2 n2 sl2) fv c (r + 1) k1 k2 k3 k4 vt ve vc vd) ts as 6 t tt v0 ts2 as2 ceA2_6) 6) (dval (tb2 w sc p pF p0 A B I (stL2 w.params A U B U2 I (listO d2 vs2 n2 sl2) fv c (r + 1) k1 k2 k3 k4 vt ve vc vd) ts as 6 t tt v0 ts2 as2 ceA2_6) 7)) (KB2 w sc B) (.ok (.ret .none)) (tb2 w sc p pF p0 A B I (stL2 w.params A U B U2 I (listO d2 vs2 n2 sl2) fv c (r + 1) k1 k2 k3 k4 vt ve vc vd) ts as 6 t tt v0 ts2 as2 ceA2_6) ∧
    finL (stL2 w.params A U B U2 I (listO d2 vs2 n2 sl2) (.int (.ofNat t) tt) (c + 1) r k1 k2 k3 k4 (dval (tb2 w sc p pF p0 A B I (stL2 w.params A U B U2 I (listO d2 vs2 n2 sl2) fv c (r + 1) k1 k2 k3 k4 vt ve vc vd) ts as 7 t tt v0 ts2 as2 ceA2_7) 4) (dval (tb2 w sc p pF p0 A B I (stL2 w.params A U B U2 I (listO d2 vs2 n2 sl2) fv c (r + 1) k1 k2 k3 k4 vt ve vc vd) ts as 7 t tt v0 ts2 as2 ceA2_7) 5) (dval (tb2 w sc p pF p0 A B I (stL2 w.params A U B U2 I (listO d2 vs2 n2 sl2) fv c (r + 1) k1 k2 k3 k4 vt ve vc vd) ts as 7 t tt v0 ts2 as2 ceA2_7) 6) (dval (tb2 w sc p pF p0 A B I (stL2 w.params A U B U2 I (listO d2 vs2 n2 sl2) fv c (r + 1) k1 k2 k3 k4 vt ve vc vd) ts as 7 t tt v0 ts2 as2 ceA2_7) 7)) (tb2 w sc p pF p0 A B I (stL2 w.params A U B U2 I (listO d2 vs2 n2 sl2) fv c (r + 1) k1 k2 k3 k4 vt ve vc vd) ts as 7 t tt v0 ts2 as2 ceA2_7) = finR (stL2 w.params A U B U2 I (listO d2 vs2 n2 sl2) (.int (.ofNat t) tt) (c + 1) r k1 k2 k3 k4 (dval (tb2 w sc p pF p0 A B I (stL2 w.params A U B U2 I (listO d2 vs2 n2 sl2) fv c (r + 1) k1 k2 k3 k4 vt ve vc vd) ts as 7 t tt v0 ts2 as2 ceA2_7) 4) (dval (tb2 w sc p pF p0 A B I (stL2 w.params A U B U2 I (listO d2 vs2 n2 sl2) fv c (r + 1) k1 k2 k3 k4 vt ve vc vd) ts as 7 t tt v0 ts2 as2 ceA2_7) 5) (dval (tb2 w sc p pF p0 A B I (stL2 w.params A U B U2 I (listO d2 vs2 n2 sl2) fv c (r + 1) k1 k2 k3 k4 vt ve vc vd) ts as 7 t tt v0 ts2 as2 ceA2_7) 6) (dval (tb2 w sc p pF p0 A B I (stL2 w.params A U B U2 I (listO d2 vs2 n2 sl2) fv c (r + 1) k1 k2 k3 k4 vt ve vc vd) ts as 7 t tt v0 ts2 as2 ceA2_7) 7)) (KB2 w sc B) (.ok (.ret .none)) (tb2 w sc p pF p0 A B I (stL2 w.params A U B U2 I (listO d2 vs2 n2 sl2) fv c (r + 1) k1 k2 k3 k4 vt ve vc vd) ts as 7 t tt v0 ts2 as2 ceA2_7) ∧
    finL (stL2 w.params A U B U2 I (listO d2 vs2 n2 sl2) (.int (.ofNat t) tt) (c + 1) r k1 k2 k3 k4 (dval (tb2 w sc p pF p0 A B I (stL2 w.params A U B U2 I (listO d2 vs2 n2 sl2) fv c (r + 1) k1 k2 k3 k4 vt ve vc vd) ts as 8 t tt v0 ts2 as2 ceA2_8) 4) (dval (tb2 w sc p pF p0 A B I (stL2 w.params A U B U2 I (listO d2 vs2 n2 sl2) fv c (r + 1) k1 k2 k3 k4 vt ve vc vd) ts as 8 t tt v0 ts2 as2 ceA2_8) 5) (dval (tb2 w sc p pF p0 A B I (stL2 w.params A U B U2 I (listO d2 vs2 n2 sl2) fv c (r + 1) k1 k2 k3 k4 vt ve vc vd) ts as 8 t tt v0 ts2 as2 ceA2_8) 6) (dval (tb2 w sc p pF p0 A B I (stL2 w.params A U B U2 I (listO d2 vs2 n2 sl2) fv c (r + 1) k1 k2 k3 k4 vt ve vc vd) ts as 8 t tt v0 ts2 as2 ceA2_8) 7)) (tb2 w sc p pF p0 A B I (stL2 w.params A U B U2 I (listO d2 vs2 n2 sl2) fv c (r + 1) k1 k2 k3 k4 vt ve vc vd) ts as 8 t tt v0 ts2 as2 ceA2_8) = finR (stL2 w.params A U B U2 I (listO d2 vs2 n2 sl2) (.int (.ofNat t) tt) (c + 1) r k1 k2 k3 k4 (dval (tb2 w sc p pF p0 A B I (stL2 w.params A U B U2 I (listO d2 vs2 n2 sl2) fv c (r + 1) k1 k2 k3 k4 vt ve vc vd) ts as 8 t tt v0 ts2 as2 ceA2_8) 4) (dval (tb2 w sc p pF p0 A B I (stL2 w.params A U B U2 I (listO d2 vs2 n2 sl2) fv c (r + 1) k1 k2 k3 k4 vt ve vc vd) ts as 8 t tt v0 ts2 as2 ceA2_8) 5) (dval (tb2 w sc p pF p0 A B I (stL2 w.params A U B U2 I (listO d2 vs2 n2 sl2) fv c (r + 1) k1 k2 k3 k4 vt ve vc vd) ts as 8 t tt v0 ts2 as2 ceA2_8) 6) (dval (tb2 w sc p pF p0 A B I (stL2 w.params A U B U2 I (listO d2 vs2 n2 sl2) fv c (r + 1) k1 k2 k3 k4 vt ve vc vd) ts as 8 t tt v0 ts2 as2 ceA2_8) 7)) (KB2 w sc B) (.ok (.ret .none)) (tb2 w sc p pF p0 A B I (stL2 w.params A U B U2 I (listO d2 vs2 n2 sl2) fv c (r + 1) k1 k2 k3 k4 vt ve vc vd) ts as 8 t tt v0 ts2 as2 ceA2_8) ∧
    finL (stL2 w.params A U B U2 I (listO d2 vs2 n2 sl2) (.int (.ofNat t) tt) (c + 1) r k1 k2 k3 k4 (dval (tb2 w sc p pF p0 A B I (stL2 w.params A U B U2 I (listO d2 vs2 n2 sl2) fv c (r + 1) k1 k2 k3 k4 vt ve vc vd) ts as 9 t tt v0 ts2 as2 ceA2_9) 4) (dval (tb2 w sc p pF p0 A B I (stL2 w.params A U B U2 I (listO d2 vs2 n2 sl2) fv c (r + 1) k1 k2 k3 k4 vt ve vc vd) ts as 9 t tt v0 ts2 as2 ceA2_9) 5) (dval (tb2 w sc p pF p0 A B I (stL2 w.params A U B U2 I (listO d2 vs2 n2 sl2) fv c (r + 1) k1 k2 k3 k4 vt ve vc vd) ts as 9 t tt v0 ts2 as2 ceA2_9) 6) (dval (tb2 w sc p pF p0 A B I (stL2 w.params A U B U2 I (listO d2 vs2 n2 sl2) fv c (r + 1) k1 k2 k3 k4 vt ve vc vd) ts as 9 t tt v0 ts2 as2 ceA2_9) 7)) (tb2 w sc p pF p0 A B I (stL2 w.params A U B U2 I (listO d2 vs2 n2 sl2) fv c (r + 1) k1 k2 k3 k4 vt ve vc vd) ts as 9 t tt v0 ts2 as2 ceA2_9) = finR (stL2 w.params A U B U2 I (listO d2 vs2 n2 sl2) (.int (.ofNat t) tt) (c + 1) r k1 k2 k3 k4 (dval (tb2 w sc p pF p0 A B I (stL2 w.params A U B U2 I (listO d2 vs2 n2 sl2) fv c (r + 1) k1 k2 k3 k4 vt ve vc vd) ts as 9 t tt v0 ts2 as2 ceA2_9) 4) (dval (tb2 w sc p pF p0 A B I (stL2 w.params A U B U2 I (listO d2 vs2 n2 sl2) fv c (r + 1) k1 k2 k3 k4 vt ve vc vd) ts as 9 t tt v0 ts2 as2 ceA2_9) 5) (dval (tb2 w sc p pF p0 A B I (stL2 w.params A U B U2 I (listO d2 vs2 n2 sl2) fv c (r + 1) k1 k2 k3 k4 vt ve vc vd) ts as 9 t tt v0 ts2 as2 ceA2_9) 6) (dval (tb2 w sc p pF p0 A B I (stL2 w.params A U B U2 I (listO d2 vs2 n2 sl2) fv c (r + 1) k1 k2 k3 k4 vt ve vc vd) ts as 9 t tt v0 ts2 as2 ceA2_9) 7)) (KB2 w sc B) (.ok (.ret .none)) (tb2 w sc p pF p0 A B I (stL2 w.params A U B U2 I (listO d2 vs2 n2 sl2) fv c (r + 1) k1 k2 k3 k4 vt ve vc vd) ts as 9 t tt v0 ts2 as2 ceA2_9) ∧
    finL (stL2 w.params A U B U2 I (listO d2 vs2 n2 sl2) (.int (.ofNat t) tt) (c + 1) r k1 k2 k3 k4 (dval (tb2 w sc p pF p0 A B I (stL2 w.params A U B U2 I (listO d2 vs2 n2 sl2) fv c (r + 1) k1 k2 k3 k4 vt ve vc vd) ts as 10 t tt v0 ts2 as2 ceA2_10) 4) (dval (tb2 w sc p pF p0 A B I (stL2 w.params A U B U2 I (listO d2 vs2 n2 sl2) fv c (r + 1) k1 k2 k3 k4 vt ve vc vd) ts as 10 t tt v0 ts2 as2 ceA2_10) 5) (dval (tb2 w sc p pF p0 A B I (stL2 w.params A U B U2 I (listO d2 vs2 n2 sl2) fv c (r + 1) k1 k2 k3 k4 vt ve vc vd) ts as 10 t tt v0 ts2 as2 ceA2_10) 6) (dval (tb2 w sc p pF p0 A B I (stL2 w.params A U B U2 I (listO d2 vs2 n2 sl2) fv c (r + 1) k1 k2 k3 k4 vt ve vc vd) ts as 10 t tt v0 ts2 as2 ceA2_10) 7)) (tb2 w sc p pF p0 A B I (stL2 w.params A U B U2 I (listO d2 vs2 n2 sl2) fv c (r + 1) k1 k2 k3 k4 vt ve vc vd) ts as 10 t tt v0 ts2 as2 ceA2_10) = finR (stL2 w.params A U B U2 I (listO d2 vs2 n2 sl2) (.int (.ofNat t) tt) (c + 1) r k1 k2 k3 k4 (dval (tb2 w sc p pF p0 A B I (stL2 w.params A U B U2 I (listO d2 vs2 n2 sl2) fv c (r + 1) k1 k2 k3 k4 vt ve vc vd) ts as 10 t tt v0 ts2 as2 ceA2_10) 4) (dval (tb2 w sc p pF p0 A B I (stL2 w.params A U B U2 I (listO d2 vs2 n2 sl2) fv c (r + 1) k1 k2 k3 k4 vt ve vc vd) ts as 10 t tt v0 ts2 as2 ceA2_10) 5) (dval (tb2 w sc p pF p0 A B I (stL2 w.params A U B U2 I (listO d2 vs2 n2 sl2) fv c (r + 1) k1 k2 k3 k4 vt ve vc vd) ts as 10 t tt v0 ts2 as2 ceA2_10) 6) (dval (tb2 w sc p pF p0 A B I (stL2 w.params A U B U2 I (listO d2 vs2 n2 sl2) fv c (r + 1) k1 k2 k3 k4 vt ve vc vd) ts as 10 t tt v0 ts2 as2 ceA2_10) 7)) (KB2 w sc B) (.ok (.ret .none)) (tb2 w sc p pF p0 A B I (stL2 w.params A U B U2 I (listO d2 vs2 n2 sl2) fv c (r + 1) k1 k2 k3 k4 vt ve vc vd) ts as 10 t tt v0 ts2 as2 ceA2_10) ∧
    finL (stL2 w.params A U B U2 I (listO d2 vs2 n2 sl2) (.int (.ofNat t) tt) (c + 1) r k1 k2 k3 k4 (dval (tb2 w sc p pF p0 A B I (stL2 w.params A U B U2 I (listO d2 vs2 n2 sl2) fv c (r + 1) k1 k2 k3 k4 vt ve vc vd) ts as 11 t tt v0 ts2 as2 ceA2_11) 4) (dval (tb2 w sc p pF p0 A B I (stL2 w.params A U B U2 I (listO d2 vs2 n2 sl2) fv c (r + 1) k1 k2 k3 k4 vt ve vc vd) ts as 11 t tt v0 ts2 as2 ceA2_11) 5) (dval (tb2 w sc p pF p0 A B I (stL2 w.params A U B U2 I (listO d2 vs2 n2 sl2) fv c (r + 1) k1 k2 k3 k4 vt ve vc vd) ts as 11 t tt v0 ts2 as2 ceA2_11) 6) (dval (tb2 w sc p pF p0 A B I (stL2 w.params A U B U2 I (listO d2 vs2 n2 sl2) fv c (r + 1) k1 k2 k3 k4 vt ve vc vd) ts as 11 t tt v0 ts2 as2 ceA2_11) 7)) (tb2 w sc p pF p0 A B I (stL2 w.params A U B U2 I (listO d2 vs2 n2 sl2) fv c (r + 1) k1 k2 k3 k4 vt ve vc vd) ts as 11 t tt v0 ts2 as2 ceA2_11) = finR (stL2 w.params A U B U2 I (listO d2 vs2 n2 sl2) (.int (.ofNat t) tt) (c + 1) r k1 k2 k3 k4 (dval (tb2 w sc p pF p0 A B I (stL2 w.params A U B U2 I (listO d2 vs2 n2 sl2) fv c (r + 1) k1 k2 k3 k4 vt ve vc vd) ts as 11 t tt v0 ts2 as2 ceA2_11) 4) (dval (tb2 w sc p pF p0 A B I (stL2 w.params A U B U2 I (listO d2 vs2 n2 sl2) fv c (r + 1) k1 k2 k3 k4 vt ve vc vd) ts as 11 t tt v0 ts2 as2 ceA2_11) 5) (dval (tb2 w sc p pF p0 A B I (stL2 w.params A U B U2 I (listO d2 vs2 n2 sl2) fv c (r + 1) k1 k2 k3 k4 vt ve vc vd) ts as 11 t tt v0 ts2 as2 ceA2_11) 6) (dval (tb2 w sc p pF p0 A B I (stL2 w.params A U B U2 I (listO d2 vs2 n2 sl2) fv c (r + 1) k1 k2 k3 k4 vt ve vc vd) ts as 11 t tt v0 ts2 as2 ceA2_11) 7)) (KB2 w sc B) (.ok (.ret .none)) (tb2 w sc p pF p0 A B I (stL2 w.params A U B U2 I (listO d2 vs2 n2 sl2) fv c (r + 1) k1 k2 k3 k4 vt ve vc vd) ts as 11 t tt v0 ts2 as2 ceA2_11) :=
  ⟨by kernel_rfl, by kernel_rfl, by kernel_rfl, by kernel_rfl, by kernel_rfl, by kernel_rfl, by kernel_rfl, by kernel_rfl, by kernel_rfl, by kernel_rfl, by kernel_rfl, by kernel_rfl⟩
set_option maxHeartbeats 0 in
theorem tb2_g1 (w : World) (sc : Obj) (d2 : Option Addr) (vs2 : Array Value) (n2 : Nat) (sl2 : Array (Option Value)) (p pF p0 : Pos) (A U B U2 : Nat → Nat) (I : Nat) (fv : Value) (c r k1 k2 k3 k4 : Nat) (vt ve vc vd : Value) (ts as : Nat → Nat) (t tt v0 : Nat) (ts2 as2 : Nat → Nat) :
    finL (stL2 w.params A U B U2 I (listO d2 vs2 n2 sl2) (.int (.ofNat t) tt) (c + 1) r k1 k2 k3 k4 (dval (tb2 w sc p pF p0 A B I (stL2 w.params A U B U2 I (listO d2 vs2 n2 sl2) fv c (r + 1) k1 k2 k3 k4 vt ve vc vd) ts as 12 t tt v0 ts2 as2 ceA2_12) 4) (dval (tb2 w sc p pF p0 A B I (stL2 w.params A U B U2 I (listO d2 vs2 n2 sl2) fv c (r + 1) k1 k2 k3 k4 vt ve vc vd) ts as 12 t tt v0 ts2 as2 ceA2_12) 5) (dval (tb2 w sc p pF p0 A B I (stL2 w.params A U B U2 I (listO d2 vs2 n2 sl2) fv c (r + 1) k1 k2 k3 k4 vt ve vc vd) ts as 12 t tt v0 ts2 as2 ceA2_12) 6) (dval (tb2 w sc p pF p0 A B I (stL2 w.params A U B U2 I (listO d2 vs2 n2 sl2) fv c (r + 1) k1 k2 k3 k4 vt ve vc vd) ts as 12 t tt v0 ts2 as2 ceA2_12) 7)) (tb2 w sc p pF p0 A B I (stL2 w.params A U B U2 I (listO d2 vs2 n2 sl2) fv c (r + 1) k1 k2 k3 k4 vt ve vc vd) ts as 12 t tt v0 ts2 as2 ceA2_12) = finR (stL2 w.params A U B U2 I (listO d2 vs2 n2 sl2) (.int (.ofNat t) tt) (c + 1) r k1 k2 k3 k4 (dval (tb2 w sc p pF p0 A B I (stL2 w.params A U B U2 I (listO d2 vs2 n2 sl2) fv c (r + 1) k1 k2 k3 k4 vt ve vc vd) ts as 12 t tt v0 ts2 as2 ceA2_12) 4) (dval (tb2 w sc p pF p0 A B I (stL2 w.params A U B U2 I (listO d2 vs2 n2 sl2) fv c (r + 1) k1 k2 k3 k4 vt ve vc vd) ts as 12 t tt v0 ts2 as2 ceA2_12) 5) (dval (tb2 w sc p pF p0 A B I (stL2 w.params A U B U2 I (listO d2 vs2 n2 sl2) fv c (r + 1) k1 k2 k3 k4 vt ve vc vd) ts as 12 t tt v0 ts2 as2 ceA2_12) 6) (dval (tb2 w sc p pF p0 A B I (stL2 w.params A U B U2 I (listO d2 vs2 n2 sl2) fv c (r + 1) k1 k2 k3 k4 vt ve vc vd) ts as 12 t tt v0 ts2 as2 ceA2_12) 7)) (KB2 w sc B) (.ok (.ret .none)) (tb2 w sc p pF p0 A B I (stL2 w.params A U B U2 I (listO d2 vs2 n2 sl2) fv c (r + 1) k1 k2 k3 k4 vt ve vc vd) ts as 12 t tt v0 ts2 as2 ceA2_12) ∧
    finL (stL2 w.params A U B U2 I (listO d2 vs2 n2 sl2) (.int (.ofNat t) tt) (c + 1) r k1 k2 k3 k4 (dval (tb2 w sc p pF p0 A B I (stL2 w.params A U B U2 I (listO d2 vs2 n2 sl2) fv c (r + 1) k1 k2 k3 k4 vt ve vc vd) ts as 13 t tt v0 ts2 as2 ceA2_13) 4) (dval (tb2 w sc p pF p0 A B I (stL2 w.params A U B U2 I (listO d2 vs2 n2 sl2) fv c (r + 1) k1 k2 k3 k4 vt ve vc vd) ts as 13 t tt v0 ts2 as2 ceA2_13) 5) (dval (tb2 w sc p pF p0 A B I (stL2 w.params A U B U2 I (listO d2 vs2 n2 sl2) fv c (r + 1) k1 k2 k3 k4 vt ve vc vd) ts as 13 t tt v0 ts2 as2 ceA2_13) 6) (dval (tb2 w sc p pF p0 A B I (stL2 w.params A U B U2 I (listO d2 vs2 n2 sl2) fv c (r + 1) k1 k2 k3 k4 vt ve vc vd) ts as 13 t tt v0 ts2 as2 ceA2_13) 7)) (tb2 w sc p pF p0 A B I (stL2 w.params A U B U2 I (listO d2 vs2 n2 sl2) fv c (r + 1) k1 k2 k3 k4 vt ve vc vd) ts as 13 t tt v0 ts2 as2 ceA2_13) = finR (stL2 w.params A U B U2 I (listO d2 vs2 n2 sl2) (.int (.ofNat t) tt) (c + 1) r k1 k2 k3 k4 (dval (tb2 w sc p pF p0 A B I (stL2 w.params A U B U2 I (listO d2 vs2 n2 sl2) fv c (r + 1) k1 k2 k3 k4 vt ve vc vd) ts as 13 t tt v0 ts2 as2 ceA2_13) 4) (dval (tb2 w sc p pF p0 A B I (stL2 w.params A U B U2 I (listO d2 vs2 n2 sl2) fv c (r + 1) k1 k2 k3 k4 vt ve vc vd) ts as 13 t tt v0 ts2 as2 ceA2_13) 5) (dval (tb2 w sc p pF p0 A B I (stL2 w.params A U B U2 I (listO d2 vs2 n2 sl2) fv c (r + 1) k1 k2 k3 k4 vt ve vc vd) ts as 13 t tt v0 ts2 as2 ceA2_13) 6) (dval (tb2 w sc p pF p0 A B I (stL2 w.params A U B U2 I (listO d2 vs2 n2 sl2) fv c (r + 1) k1 k2 k3 k4 vt ve vc vd) ts as 13 t tt v0 ts2 as2 ceA2_13) 7)) (KB2 w sc B) (.ok (.ret .none)) (tb2 w sc p pF p0 A B I (stL2 w.params A U B U2 I (listO d2 vs2 n2 sl2) fv c (r + 1) k1 k2 k3 k4 vt ve vc vd) ts as 13 t tt v0 ts2 as2 ceA2_13) ∧
    finL (stL2 w.params A U B U2 I (listO d2 vs2 n2 sl2) (.int (.ofNat t) tt) (c + 1) r k1 k2 k3 k4 (dval (tb2 w sc p pF p0 A B I (stL2 w.params A U B U2 I (listO d2 vs2 n2 sl2) fv c (r + 1) k1 k2 k3 k4 vt ve vc vd) ts as 14 t tt v0 ts2 as2 ceA2_14) 4) (dval (tb2 w sc p pF p0 A B I (stL2 w.params A U B U2 I (listO d2 vs2 n2 sl2) fv c (r + 1) k1 k2 k3 k4 vt ve vc vd) ts as 14 t tt v0 ts2 as2 ceA2_14) 5) (dval (tb2 w sc p pF p0 A B I (stL2 w.params A U B U2 I (listO d2 vs2 n2 sl2) fv c (r + 1) k1 k2 k3 k4 vt ve vc vd) ts as 14 t tt v0 ts2 as2 ceA2_14) 6) (dval (tb2 w sc p pF p0 A B I (stL2 w.params A U B U2 I (listO d2 vs2 n2 sl2) fv c (r + 1) k1 k2 k3 k4 vt ve vc vd) ts as 14 t tt v0 ts2 as2 ceA2_14) 7)) (tb2 w sc p pF p0 A B I (stL2 w.params A U B U2 I (listO d2 vs2 n2 sl2) fv c (r + 1) k1 k2 k3 k4 vt ve vc vd) ts as 14 t tt v0 ts2 as2 ceA2_14) = finR (stL2 w.params A U B U2 I (listO d2 vs2 n2 sl2) (.int (.ofNat t) tt) (c + 1) r k1 k2 k3 k4 (dval (tb2 w sc p pF p0 A B I (stL2 w.params A U B U2 I (listO d2 vs2 n2 sl2) fv c (r + 1) k1 k2 k3 k4 vt ve vc vd) ts as 14 t tt v0 ts2 as2 ceA2_14) 4) (dval (tb2 w sc p pF p0 A B I (stL2 w.params A U B U2 I (listO d2 vs2 n2 sl2) fv c (r + 1) k1 k2 k3 k4 vt ve vc vd) ts as 14 t tt v0 ts2 as2 ceA2_14) 5) (dval (tb2 w sc p pF p0 A B I (stL2 w.params A U B U2 I (listO d2 vs2 n2 sl2) fv c (r + 1) k1 k2 k3 k4 vt ve vc vd) ts as 14 t tt v0 ts2 as2 ceA2_14) 6) (dval (tb2 w sc p pF p0 A B I (stL2 w.params A U B U2 I (listO d2 vs2 n2 sl2) fv c (r + 1) k1 k2 k3 k4 vt ve vc vd) ts as 14 t tt v0 ts2 as2 ceA2_14) 7)) (KB2 w sc B) (.ok (.ret .none)) (tb2 w sc p pF p0 A B I (stL2 w.params A U B U2 I (listO d2 vs2 n2 sl2) fv c (r + 1) k1 k2 k3 k4 vt ve vc vd) ts as 14 t tt v0 ts2 as2 ceA2_14) ∧
    finL (stL2 w.params A U B U2 I (listO d2 vs2 n2 sl2) (.int (.ofNat t) tt) (c + 1) r k1 k2 k3 k4 (dval (tb2 w sc p pF p0 A B I (stL2 w.params A U B U2 I (listO d2 vs2 n2 sl2) fv c (r + 1) k1 k2 k3 k4 vt ve vc vd) ts as 15 t tt v0 ts2 as2 ceA2_15) 4) (dval (tb2 w sc p pF p0 A B I (stL2 w.params A U B U2 I (listO d2 vs2 n2 sl2) fv c (r + 1) k1 k2 k3 k4 vt ve vc vd) ts as 15 t tt v0 ts2 as2 ceA2_15) 5) (dval (tb2 w sc p pF p0 A B I (stL2 w.params A U B U2 I (listO d2 vs2 n2 sl2) fv c (r + 1) k1 k2 k3 k4 vt ve vc vd) ts as 15 t tt v0 ts2 as2 ceA2_15) 6) (dval (tb2 w sc p pF p0 A B I (stL2 w.params A U B U2 I (listO d2 vs2 n2 sl2) fv c (r + 1) k1 k2 k3 k4 vt ve vc vd) ts as 15 t tt v0 ts2 as2 ceA2_15) 7)) (tb2 w sc p pF p0 A B I (stL2 w.params A U B U2 I (listO d2 vs2 n2 sl2) fv c (r + 1) k1 k2 k3 k4 vt ve vc vd) ts as 15 t tt v0 ts2 as2 ceA2_15) = finR (stL2 w.params A U B U2 I (listO d2 vs2 n2 sl2) (.int (.ofNat t) tt) (c + 1) r k1 k2 k3 k4 (dval (tb2 w sc p pF p0 A B I (stL2 w.params A U B U2 I (listO d2 vs2 n2 sl2) fv c (r + 1) k1 k2 k3 k4 vt ve vc vd) ts as 15 t tt v0 ts2 as2 ceA2_15) 4) (dval (tb2 w sc p pF p0 A B I (stL2 w.params A U B U2 I (listO d2 vs2 n2 sl2) fv c (r + 1) k1 k2 k3 k4 vt ve vc vd) ts as 15 t tt v0 ts2 as2 ceA2_15) 5) (dval (tb2 w sc p pF p0 A B I (stL2 w.params A U B U2 I (listO d2 vs2 n2 sl2) fv c (r + 1) k1 k2 k3 k4 vt ve vc vd) ts as 15 t tt v0 ts2 as2 ceA2_15) 6) (dval (tb2 w sc p pF p0 A B I (stL2 w.params A U B U2 I (listO d2 vs2 n2 sl2) fv c (r + 1) k1 k2 k3 k4 vt ve vc vd) ts as 15 t tt v0 ts2 as2 ceA2_15) 7)) (KB2 w sc B) (.ok (.ret .none)) (tb2 w sc p pF p0 A B I (stL2 w.params A U B U2 I (listO d2 vs2 n2 sl2) fv c (r + 1) k1 k2 k3 k4 vt ve vc vd) ts as 15 t tt v0 ts2 as2 ceA2_15) ∧
    finL (stL2 w.params A U B U2 I (listO d2 vs2 n2 sl2) (.int (.ofNat t) tt) (c + 1) r k1 k2 k3 k4 (dval (tb2 w sc p pF p0 A B I (stL2 w.params A U B U2 I (listO d2 vs2 n2 sl2) fv c (r + 1) k1 k2 k3 k4 vt ve vc vd) ts as 16 t tt v0 ts2 as2 ceA2_16) 4) (dval (tb2 w sc p pF p0 A B I (stL2 w.params A U B U2 I (listO d2 vs2 n2 sl2) fv c (r + 1) k1 k2 k3 k4 vt ve vc vd) ts as 16 t tt v0 ts2 as2 ceA2_16) 5) (dval (tb2 w sc p pF p0 A B I (stL2 w.params A U B U2 I (listO d2 vs2 n2 sl2) fv c (r + 1) k1 k2 k3 k4 vt ve vc vd) ts as 16 t tt v0 ts2 as2 ceA2_16) 6) (dval (tb2 w sc p pF p0 A B I (stL2 w.params A U B U2 I (listO d2 vs2 n2 sl2) fv c (r + 1) k1 k2 k3 k4 vt ve vc vd) ts as 16 t tt v0 ts2 as2 ceA2_16) 7)) (tb2 w sc p pF p0 A B I (stL2 w.params A U B U2 I (listO d2 vs2 n2 sl2) fv c (r + 1) k1 k2 k3 k4 vt ve vc vd) ts as 16 t tt v0 ts2 as2 ceA2_16) = finR (stL2 w.params A U B U2 I (listO d2 vs2 n2 sl2) (.int (.ofNat t) tt) (c + 1) r k1 k2 k3 k4 (dval (tb2 w sc p pF p0 A B I (stL2 w.params A U B U2 I (listO d2 vs2 n2 sl2) fv c (r + 1) k1 k2 k3 k4 vt ve vc vd) ts as 16 t tt v0 ts2 as2 ceA2_16) 4) (dval (tb2 w sc p pF p0 A B I (stL2 w.params A U B U2 I (listO d2 vs2 n2 sl2) fv c (r + 1) k1 k2 k3 k4 vt ve vc vd) ts as 16 t tt v0 ts2 as2 ceA2_16) 5) (dval (tb2 w sc p pF p0 A B I (stL2 w.params A U B U2 I (listO d2 vs2 n2 sl2) fv c (r + 1) k1 k2 k3 k4 vt ve vc vd) ts as 16 t tt v0 ts2 as2 ceA2_16) 6) (dval (tb2 w sc p pF p0 A B I (stL2 w.params A U B U2 I (listO d2 vs2 n2 sl2) fv c (r + 1) k1 k2 k3 k4 vt ve vc vd) ts as 16 t tt v0 ts2 as2 ceA2_16) 7)) (KB2 w sc B) (.ok (.ret .none)) (tb2 w sc p pF p0 A B I (stL2 w.params A U B U2 I (listO d2 vs2 n2 sl2) fv c (r + 1) k1 k2 k3 k4 vt ve vc vd) ts as 16 t tt v0 ts2 as2 ceA2_16) ∧
    finL (stL2 w.params A U B U2 I (listO d2 vs2 n2 sl2) (.int (.ofNat t) tt) (c + 1) r k1 k2 k3 k4 (dval (tb2 w sc p pF p0 A B I (stL2 w.params A U B U2 I (listO d2 vs2 n2 sl2) fv c (r + 1) k1 k2 k3 k4 vt ve vc vd) ts as 17 t tt v0 ts2 as2 ceA2_17) 4) (dval (tb2 w sc p pF p0 A B I (stL2 w.params A U B U2 I (listO d2 vs2 n2 sl2) fv c (r + 1) k1 k2 k3 k4 vt ve vc vd) ts as 17 t tt v0 ts2 as2 ceA2_17) 5) (dval (tb2 w sc p pF p0 A B I (stL2 w.params A U B U2 I (listO d2 vs2 n2 sl2) fv c (r + 1) k1 k2 k3 k4 vt ve vc vd) ts as 17 t tt v0 ts2 as2 ceA2_17) 6) (dval (tb2 w sc p pF p0 A B I (stL2 w.params A U B U2 I (listO d2 vs2 n2 sl2) fv c (r + 1) k1 k2 k3 k4 vt ve vc vd) ts as 17 t tt v0 ts2 as2 ceA2_17) 7)) (tb2 w sc p pF p0 A B I (stL2 w.params A U B U2 I (listO d2 vs2 n2 sl2) fv c (r + 1) k1 k2 k3 k4 vt ve vc vd) ts as 17 t tt v0 ts2 as2 ceA2_17) = finR (stL2 w.params A U B U2 I (listO d2 vs2 n2 sl2) (.int (.ofNat t) tt) (c + 1) r k1 k2 k3 k4 (dval (tb2 w sc p pF p0 A B I (stL2 w.params A U B U2 I (listO d2 vs2 n2 sl2) fv c (r + 1) k1 k2 k3 k4 vt ve vc vd) ts as 17 t tt v0 ts2 as2 ceA2_17) 4) (dval (tb2 w sc p pF p0 A B I (stL2 w.params A U B U2 I (listO d2 vs2 n2 sl2) fv c (r + 1) k1 k2 k3 k4 vt ve vc vd) ts as 17 t tt v0 ts2 as2 ceA2_17) 5) (dval (tb2 w sc p pF p0 A B I (stL2 w.params A U B U2 I (listO d2 vs2 n2 sl2) fv c (r + 1) k1 k2 k3 k4 vt ve vc vd) ts as 17 t tt v0 ts2 as2 ceA2_17) 6) (dval (tb2 w sc p pF p0 A B I (stL2 w.params A U B U2 I (listO d2 vs2 n2 sl2) fv c (r + 1) k1 k2 k3 k4 vt ve vc vd) ts as 17 t tt v0 ts2 as2 ceA2_17) 7)) (KB2 w sc B) (.ok (.ret .none)) (tb2 w sc p pF p0 A B I (stL2 w.params A U B U2 I (listO d2 vs2 n2 sl2) fv c (r + 1) k1 k2 k3 k4 vt ve vc vd) ts as 17 t tt v0 ts2 as2 ceA2_17) ∧
    finL (stL2 w.params A U B U2 I (listO d2 vs2 n2 sl2) (.int (.ofNat t) tt) (c + 1) r k1 k2 k3 k4 (dval (tb2 w sc p pF p0 A B I (stL2 w.params A U B U2 I (listO d2 vs2 n2 sl2) fv c (r + 1) k1 k2 k3 k4 vt ve vc vd) ts as 18 t tt v0 ts2 as2 ceA2_18) 4) (dval (tb2 w sc p pF p0 A B I (stL2 w.params A U B U2 I (listO d2 vs2 n2 sl2) fv c (r + 1) k1 k2 k3 k4 vt ve vc vd) ts as 18 t tt v0 ts2 as2 ceA2_18) 5) (dval (tb2 w sc p pF p0 A B I (stL2 w.params A U B U2 I (listO d2 vs2 n2 sl2) fv c (r + 1) k1 k2 k3 k4 vt ve vc vd) ts as 18 t tt v0 ts2 as2 ceA2_18) 6) (dval (tb2 w sc p pF p0 A B I (stL2 w.params A U B U2 I (listO d2 vs2 n2 sl2) fv c (r + 1) k1 k2 k3 k4 vt ve vc vd) ts as 18 t tt v0 ts2 as2 ceA2_18) 7)) (tb2 w sc p pF p0 A B I (stL2 w.params A U B U2 I (listO d2 vs2 n2 sl2) fv c (r + 1) k1 k2 k3 k4 vt ve vc vd) ts as 18 t tt v0 ts2 as2 ceA2_18) = finR (stL2 w.params A U B U2 I (listO d2 vs2 n2 sl2) (.int (.ofNat t) tt) (c + 1) r k1 k2 k3 k4 (dval (tb2 w sc p pF p0 A B I (stL2 w.params A U B U2 I (listO d2 vs2 n2 sl2) fv c (r + 1) k1 k2 k3 k4 vt ve vc vd) ts as 18 t tt v0 ts2 as2 ceA2_18) 4) (dval (tb2 w sc p pF p0 A B I (stL2 w.params A U B U2 I (listO d2 vs2 n2 sl2) fv c (r + 1) k1 k2 k3 k4 vt ve vc vd) ts as 18 t tt v0 ts2 as2 ceA2_18) 5) (dval (tb2 w sc p pF p0 A B I (stL2 w.params A U B U2 I (listO d2 vs2 n2 sl2) fv c (r + 1) k1 k2 k3 k4 vt ve vc vd) ts as 18 t tt v0 ts2 as2 ceA2_18) 6) (dval (tb2 w sc p pF p0 A B I (stL2 w.params A U B U2 I (listO d2 vs2 n2 sl2) fv c (r + 1) k1 k2 k3 k4 vt ve vc vd) ts as 18 t tt v0 ts2 as2 ceA2_18) 7)) (KB2 w sc B) (.ok (.ret .none)) (tb2 w sc p pF p0 A B I (stL2 w.params A U B U2 I (listO d2 vs2 n2 sl2) fv c (r + 1) k1 k2 k3 k4 vt ve vc vd) ts as 18 t tt v0 ts2 as2 ceA2_18) ∧
    finL (stL2 w.params A U B U2 I (listO d2 vs2 n2 sl2) (.int (.ofNat t) tt) (c + 1) r k1 k2 k3 k4 (dval (tb2 w sc p pF p0 A B I (stL2 w.params A U B U2 I (listO d2 vs2 n2 sl2) fv c (r + 1) k1 k2 k3 k4 vt ve vc vd) ts as 19 t tt v0 ts2 as2 ceA2_19) 4) (dval (tb2 w sc p pF p0 A B I (stL2 w.params A U B U2 I (listO d2 vs2 n2 sl2) fv c (r + 1) k1 k2 k3 k4 vt ve vc vd) ts as 19 t tt v0 ts2 as2 ceA2_19) 5) (dval (tb2 w sc p pF p0 A B I (stL2 w.params A U B U2 I (listO d2 vs2 n2 sl2) fv c (r + 1) k1 k2 k3 k4 vt ve vc vd) ts as 19 t tt v0 ts2 as2 ceA2_19) 6) (dval (tb2 w sc p pF p0 A B I (stL2 w.params A U B U2 I (listO d2 vs2 n2 sl2) fv c (r + 1) k1 k2 k3 k4 vt ve vc vd) ts as 19 t tt v0 ts2 as2 ceA2_19) 7)) (tb2 w sc p pF p0 A B I (stL2 w.params A U B U2 I (listO d2 vs2 n2 sl2) fv c (r + 1) k1 k2 k3 k4 vt ve vc vd) ts as 19 t tt v0 ts2 as2 ceA2_19) = finR (stL2 w.params A U B U2 I (listO d2 vs2 n2 sl2) (.int (.ofNat t) tt) (c + 1) r k1 k2 k3 k4 (dval (tb2 w sc p pF p0 A B I (stL2 w.params A U B U2 I (listO d2 vs2 n2 sl2) fv c (r + 1) k1 k2 k3 k4 vt ve vc vd) ts as 19 t tt v0 ts2 as2 ceA2_19) 4) (dval (tb2 w sc p pF p0 A B I (stL2 w.params A U B U2 I (listO d2 vs2 n2 sl2) fv c (r + 1) k1 k2 k3 k4 vt ve vc vd) ts as 19 t tt v0 ts2 as2 ceA2_19) 5) (dval (tb2 w sc p pF p0 A B I (stL2 w.params A U B U2 I (listO d2 vs2 n2 sl2) fv c (r + 1) k1 k2 k3 k4 vt ve vc vd) ts as 19 t tt v0 ts2 as2 ceA2_19) 6) (dval (tb2 w sc p pF p0 A B I (stL2 w.params A U B U2 I (listO d2 vs2 n2 sl2) fv c (r + 1) k1 k2 k3 k4 vt ve vc vd) ts as 19 t tt v0 ts2 as2 ceA2_19) 7)) (KB2 w sc B) (.ok (.ret .none)) (tb2 w sc p pF p0 A B I (stL2 w.params A U B U2 I (listO d2 vs2 n2 sl2) fv c (r + 1) k1 k2 k3 k4 vt ve vc vd) ts as 19 t tt v0 ts2 as2 ceA2_19) ∧
    finL (stL2 w.params A U B U2 I (listO d2 vs2 n2 sl2) (.int (.ofNat t) tt) (c + 1) r k1 k2 k3 k4 (dval (tb2 w sc p pF p0 A B I (stL2 w.params A U B U2 I (listO d2 vs2 n2 sl2) fv c (r + 1) k1 k2 k3 k4 vt ve vc vd) ts as 20 t tt v0 ts2 as2 ceA2_20) 4) (dval (tb2 w sc p pF p0 A B I (stL2 w.params A U B U2 I (listO d2 vs2 n2 sl2) fv c (r + 1) k1 k2 k3 k4 vt ve vc vd) ts as 20 t tt v0 ts2 as2 ceA2_20) 5) (dval (tb2 w sc p pF p0 A B I (stL2 w.params A U B U2 I (listO d2 vs2 n2 sl2) fv c (r + 1) k1 k2 k3 k4 vt ve vc vd) ts as 20 t tt v0 ts2 as2 ceA2_20) 6) (dval (tb2 w sc p pF p0 A B I (stL2 w.params A U B U2 I (listO d2 vs2 n2 sl2) fv c (r + 1) k1 k2 k3 k4 vt ve vc vd) ts as 20 t tt v0 ts2 as2 ceA2_20) 7)) (tb2 w sc p pF p0 A B I (stL2 w.params A U B U2 I (listO d2 vs2 n2 sl2) fv c (r + 1) k1 k2 k3 k4 vt ve vc vd) ts as 20 t tt v0 ts2 as2 ceA2_20) = finR (stL2 w.params A U B U2 I (listO d2 vs2 n2 sl2) (.int (.ofNat t) tt) (c + 1) r k1 k2 k3 k4 (dval (tb2 w sc p pF p0 A B I (stL2 w.params A U B U2 I (listO d2 vs2 n2 sl2) fv c (r + 1) k1 k2 k3 k4 vt ve vc vd) ts as 20 t tt v0 ts2 as2 ceA2_20) 4) (dval (tb2 w sc p pF p0 A B I (stL2 w.params A U B U2 I (listO d2 vs2 n2 sl2) fv c (r + 1) k1 k2 k3 k4 vt ve vc vd) ts as 20 t tt v0 ts2 as2 ceA2_20) 5) (dval (tb2 w sc p pF p0 A B I (stL2 w.params A U B U2 I (listO d2 vs2 n2 sl2) fv c (r + 1) k1 k2 k3 k4 vt ve vc vd) ts as 20 t tt v0 ts2 as2 ceA2_20) 6) (dval (tb2 w sc p pF p0 A B I (stL2 w.params A U B U2 I (listO d2 vs2 n2 sl2) fv c (r + 1) k1 k2 k3 k4 vt ve vc vd) ts as 20 t tt v0 ts2 as2 ceA2_20) 7)) (KB2 w sc B) (.ok (.ret .none)) (tb2 w sc p pF p0 A B I (stL2 w.params A U B U2 I (listO d2 vs2 n2 sl2) fv c (r + 1) k1 k2 k3 k4 vt ve vc vd) ts as 20 t tt v0 ts2 as2 ceA2_20) ∧
    finL (stL2 w.params A U B U2 I (listO d2 vs2 n2 sl2) (.int (.ofNat t) tt) (c + 1) r k1 k2 k3 k4 (dval (tb2 w sc p pF p0 A B I (stL2 w.params A U B U2 I (listO d2 vs2 n2 sl2) fv c (r + 1) k1 k2 k3 k4 vt ve vc vd) ts as 21 t tt v0 ts2 as2 ceA2_21) 4) (dval (tb2 w sc p pF p0 A B I (stL2 w.params A U B U2 I (listO d2 vs2 n2 sl2) fv c (r + 1) k1 k2 k3 k4 vt ve vc vd) ts as 21 t tt v0 ts2 as2 ceA2_21) 5) (dval (tb2 w sc p pF p0 A B I (stL2 w.params A U B U2 I (listO d2 vs2 n2 sl2) fv c (r + 1) k1 k2 k3 k4 vt ve vc vd) ts as 21 t tt v0 ts2 as2 ceA2_21) 6) (dval (tb2 w sc p pF p0 A B I (stL2 w.params A U B U2 I (listO d2 vs2 n2 sl2) fv c (r + 1) k1 k2 k3 k4 vt ve vc vd) ts as 21 t tt v0 ts2 as2 ceA2_21) 7)) (tb2 w sc p pF p0 A B I (stL2 w.params A U B U2 I (listO d2 vs2 n2 sl2) fv c (r + 1) k1 k2 k3 k4 vt ve vc vd) ts as 21 t tt v0 ts2 as2 ceA2_21) = finR (stL2 w.params A U B U2 I (listO d2 vs2 n2 sl2) (.int (.ofNat t) tt) (c + 1) r k1 k2 k3 k4 (dval (tb2 w sc p pF p0 A B I (stL2 w.params A U B U2 I (listO d2 vs2 n2 sl2) fv c (r + 1) k1 k2 k3 k4 vt ve vc vd) ts as 21 t tt v0 ts2 as2 ceA2_21) 4) (dval (tb2 w sc p pF p0 A B I (stL2 w.params A U B U2 I (listO d2 vs2 n2 sl2) fv c (r + 1) k1 k2 k3 k4 vt ve vc vd) ts as 21 t tt v0 ts2 as2 ceA2_21) 5) (dval (tb2 w sc p pF p0 A B I (stL2 w.params A U B U2 I (listO d2 vs2 n2 sl2) fv c (r + 1) k1 k2 k3 k4 vt ve vc vd) ts as 21 t tt v0 ts2 as2 ceA2_21) 6) (dval (tb2 w sc p pF p0 A B I (stL2 w.params A U B U2 I (listO d2 vs2 n2 sl2) fv c (r + 1) k1 k2 k3 k4 vt ve vc vd) ts as 21 t tt v0 ts2 as2 ceA2_21) 7)) (KB2 w sc B) (.ok (.ret .none)) (tb2 w sc p pF p0 A B I (stL2 w.params A U B U2 I (listO d2 vs2 n2 sl2) fv c (r + 1) k1 k2 k3 k4 vt ve vc vd) ts as 21 t tt v0 ts2 as2 ceA2_21) ∧
    finL (stL2 w.params A U B U2 I (listO d2 vs2 n2 sl2) (.int (.ofNat t) tt) (c + 1) r k1 k2 k3 k4 (dval (tb2 w sc p pF p0 A B I (stL2 w.params A U B U2 I (listO d2 vs2 n2 sl2) fv c (r + 1) k1 k2 k3 k4 vt ve vc vd) ts as 22 t tt v0 ts2 as2 ceA2_22) 4) (dval (tb2 w sc p pF p0 A B I (stL2 w.params A U B U2 I (listO d2 vs2 n2 sl2) fv c (r + 1) k1 k2 k3 k4 vt ve vc vd) ts as 22 t tt v0 ts2 as2 ceA2_22) 5) (dval (tb2 w sc p pF p0 A B I (stL2 w.params A U B U2 I (listO d2 vs2 n2 sl2) fv c (r + 1) k1 k2 k3 k4 vt ve vc vd) ts as 22 t tt v0 ts2 as2 ceA2_22) 6) (dval (tb2 w sc p pF p0 A B I (stL2 w.params A U B U2 I (listO d2 vs2 n2 sl2) fv c (r + 1) k1 k2 k3 k4 vt ve vc vd) ts as 22 t tt v0 ts2 as2 ceA2_22) 7)) (tb2 w sc p pF p0 A B I (stL2 w.params A U B U2 I (listO d2 vs2 n2 sl2) fv c (r + 1) k1 k2 k3 k4 vt ve vc vd) ts as 22 t tt v0 ts2 as2 ceA2_22) = finR (stL2 w.params A U B U2 I (listO d2 vs2 n2 sl2) (.int (.ofNat t) tt) (c + 1) r k1 k2 k3 k4 (dval (tb2 w sc p pF p0 A B I (stL2 w.params A U B U2 I (listO d2 vs2 n2 sl2) fv c (r + 1) k1 k2 k3 k4 vt ve vc vd) ts as 22 t tt v0 ts2 as2 ceA2_22) 4) (dval (tb2 w sc p pF p0 A B I (stL2 w.params A U B U2 I (listO d2 vs2 n2 sl2) fv c (r + 1) k1 k2 k3 k4 vt ve vc vd) ts as 22 t tt v0 ts2 as2 ceA2_22) 5) (dval (tb2 w sc p pF p0 A B I (stL2 w.params A U B U2 I (listO d2 vs2 n2 sl2) fv c (r + 1) k1 k2 k3 k4 vt ve vc vd) ts as 22 t tt v0 ts2 as2 ceA2_22) 6) (dval (tb2 w sc p pF p0 A B I (stL2 w.params A U B U2 I (listO d2 vs2 n2 sl2) fv c (r + 1) k1 k2 k3 k4 vt ve vc vd) ts as 22 t tt v0 ts2 as2 ceA2_22) 7)) (KB2 w sc B) (.ok (.ret .none)) (tb2 w sc p pF p0 A B I (stL2 w.params A U B U2 I (listO d2 vs2 n2 sl2) fv c (r + 1) k1 k2 k3 k4 vt ve vc vd) ts as 22 t tt v0 ts2 as2 ceA2_22) ∧
    finL (stL2 w.params A U B U2 I (listO d2 vs2 n2 sl2) (.int (.ofNat t) tt) (c + 1) r k1 k2 k3 k4 (dval (tb2 w sc p pF p0 A B I (stL2 w.params A U B U2 I (listO d2 vs2 n2 sl2) fv c (r + 1) k1 k2 k3 k4 vt ve vc vd) ts as 23 t tt v0 ts2 as2 ceA2_23) 4) (dval (tb2 w sc p pF p0 A B I (stL2 w.params A U B U2 I (listO d2 vs2 n2 sl2) fv c (r + 1) k1 k2 k3 k4 vt ve vc vd) ts as 23 t tt v0 ts2 as2 ceA2_23) 5) (dval (tb2 w sc p pF p0 A B I (stL2 w.params A U B U2 I (listO d2 vs2 n2 sl2) fv c (r + 1) k1 k2 k3 k4 vt ve vc vd) ts as 23 t tt v0 ts2 as2 ceA2_23) 6) (dval (tb2 w sc p pF p0 A B I (stL2 w.params A U B U2 I (listO d2 vs2 n2 sl2) fv c (r + 1) k1 k2 k3 k4 vt ve vc vd) ts as 23 t tt v0 ts2 as2 ceA2_23) 7)) (tb2 w sc p pF p0 A B I (stL2 w.params A U B U2 I (listO d2 vs2 n2 sl2) fv c (r + 1) k1 k2 k3 k4 vt ve vc vd) ts as 23 t tt v0 ts2 as2 ceA2_23) = finR (stL2 w.params A U B U2 I (listO d2 vs2 n2 sl2) (.int (.ofNat t) tt) (c + 1) r k1 k2 k3 k4 (dval (tb2 w sc p pF p0 A B I (stL2 w.params A U B U2 I (listO d2 vs2 n2 sl2) fv c (r + 1) k1 k2 k3 k4 vt ve vc vd) ts as 23 t tt v0 ts2 as2 ceA2_23) 4) (dval (tb2 w sc p pF p0 A B I (stL2 w.params A U B U2 I (listO d2 vs2 n2 sl2) fv c (r + 1) k1 k2 k3 k4 vt ve vc vd) ts as 23 t tt v0 ts2 as2 ceA2_23) 5) (dval (tb2 w sc p pF p0 A B I (stL2 w.params A U B U2 I (listO d2 vs2 n2 sl2) fv c (r + 1) k1 k2 k3 k4 vt ve vc vd) ts as 23 t tt v0 ts2 as2 ceA2_23) 6) (dval (tb2 w sc p pF p0 A B I (stL2 w.params A U B U2 I (listO d2 vs2 n2 sl2) fv c (r + 1) k1 k2 k3 k4 vt ve vc vd) ts as 23 t tt v0 ts2 as2 ceA2_23) 7)) (KB2 w sc B) (.ok (.ret .none)) (tb2 w sc p pF p0 A B I (stL2 w.params A U B U2 I (listO d2 vs2 n2 sl2) fv c (r + 1) k1 k2 k3 k4 vt ve vc vd) ts as 23 t tt v0 ts2 as2 ceA2_23) :=
  ⟨by kernel_rfl, by kernel_rfl, by kernel_rfl, by kernel_rfl, by kernel_rfl, by kernel_rfl, by kernel_rfl, by kernel_rfl, by kernel_rfl, by kernel_rfl, by kernel_rfl, by kernel_rfl⟩
set_option maxHeartbeats 0 in
theorem tb2_g2 (w : World) (sc : Obj) (d2 : Option Addr) (vs2 : Array Value) (n2 : Nat) (sl2 : Array (Option Value)) (p pF p0 : Pos) (A U B U2 : Nat → Nat) (I : Nat) (fv : Value) (c r k1 k2 k3 k4 : Nat) (vt ve vc vd : Value) (ts as : Nat → Nat) (t tt v0 : Nat) (ts2 as2 : Nat → Nat) :
    finL (stL2 w.params A U B U2 I (listO d2 vs2 n2 sl2) (.int (.ofNat t) tt) (c + 1) r k1 k2 k3 k4 (dval (tb2 w sc p pF p0 A B I (stL2 w.params A U B U2 I (listO d2 vs2 n2 sl2) fv c (r + 1) k1 k2 k3 k4 vt ve vc vd) ts as 24 t tt v0 ts2 as2 ceA2_24) 4) (dval (tb2 w sc p pF p0 A B I (stL2 w.params A U B U2 I (listO d2 vs2 n2 sl2) fv c (r + 1) k1 k2 k3 k4 vt ve vc vd) ts as 24 t tt v0 ts2 as2 ceA2_24) 5) (dval (tb2 w sc p pF p0 A B I (stL2 w.params A U B U2 I (listO d2 vs2 n2 sl2) fv c (r + 1) k1 k2 k3 k4 vt ve vc vd) ts as 24 t tt v0 ts2 as2 ceA2_24) 6) (dval (tb2 w sc p pF p0 A B I (stL2 w.params A U B U2 I (listO d2 vs2 n2 sl2) fv c (r + 1) k1 k2 k3 k4 vt ve vc vd) ts as 24 t tt v0 ts2 as2 ceA2_24) 7)) (tb2 w sc p pF p0 A B I (stL2 w.params A U B U2 I (listO d2 vs2 n2 sl2) fv c (r + 1) k1 k2 k3 k4 vt ve vc vd) ts as 24 t tt v0 ts2 as2 ceA2_24) = finR (stL2 w.params A U B U2 I (listO d2 vs2 n2 sl2) (.int (.ofNat t) tt) (c + 1) r k1 k2 k3 k4 (dval (tb2 w sc p pF p0 A B I (stL2 w.params A U B U2 I (listO d2 vs2 n2 sl2) fv c (r + 1) k1 k2 k3 k4 vt ve vc vd) ts as 24 t tt v0 ts2 as2 ceA2_24) 4) (dval (tb2 w sc p pF p0 A B I (stL2 w.params A U B U2 I (listO d2 vs2 n2 sl2) fv c (r + 1) k1 k2 k3 k4 vt ve vc vd) ts as 24 t tt v0 ts2 as2 ceA2_24) 5) (dval (tb2 w sc p pF p0 A B I (stL2 w.params A U B U2 I (listO d2 vs2 n2 sl2) fv c (r + 1) k1 k2 k3 k4 vt ve vc vd) ts as 24 t tt v0 ts2 as2 ceA2_24) 6) (dval (tb2 w sc p pF p0 A B I (stL2 w.params A U B U2 I (listO d2 vs2 n2 sl2) fv c (r + 1) k1 k2 k3 k4 vt ve vc vd) ts as 24 t tt v0 ts2 as2 ceA2_24) 7)) (KB2 w sc B) (.ok (.ret .none)) (tb2 w sc p pF p0 A B I (stL2 w.params A U B U2 I (listO d2 vs2 n2 sl2) fv c (r + 1) k1 k2 k3 k4 vt ve vc vd) ts as 24 t tt v0 ts2 as2 ceA2_24) ∧
    finL (stL2 w.params A U B U2 I (listO d2 vs2 n2 sl2) (.int (.ofNat t) tt) (c + 1) r k1 k2 k3 k4 (dval (tb2 w sc p pF p0 A B I (stL2 w.params A U B U2 I (listO d2 vs2 n2 sl2) fv c (r + 1) k1 k2 k3 k4 vt ve vc vd) ts as 25 t tt v0 ts2 as2 ceA2_25) 4) (dval (tb2 w sc p pF p0 A B I (stL2 w.params A U B U2 I (listO d2 vs2 n2 sl2) fv c (r + 1) k1 k2 k3 k4 vt ve vc vd) ts as 25 t tt v0 ts2 as2 ceA2_25) 5) (dval (tb2 w sc p pF p0 A B I (stL2 w.params A U B U2 I (listO d2 vs2 n2 sl2) fv c (r + 1) k1 k2 k3 k4 vt ve vc vd) ts as 25 t tt v0 ts2 as2 ceA2_25) 6) (dval (tb2 w sc p pF p0 A B I (stL2 w.params A U B U2 I (listO d2 vs2 n2 sl2) fv c (r + 1) k1 k2 k3 k4 vt ve vc vd) ts as 25 t tt v0 ts2 as2 ceA2_25) 7)) (tb2 w sc p pF p0 A B I (stL2 w.params A U B U2 I (listO d2 vs2 n2 sl2) fv c (r + 1) k1 k2 k3 k4 vt ve vc vd) ts as 25 t tt v0 ts2 as2 ceA2_25) = finR (stL2 w.params A U B U2 I (listO d2 vs2 n2 sl2) (.int (.ofNat t) tt) (c + 1) r k1 k2 k3 k4 (dval (tb2 w sc p pF p0 A B I (stL2 w.params A U B U2 I (listO d2 vs2 n2 sl2) fv c (r + 1) k1 k2 k3 k4 vt ve vc vd) ts as 25 t tt v0 ts2 as2 ceA2_25) 4) (dval (tb2 w sc p pF p0 A B I (stL2 w.params A U B U2 I (listO d2 vs2 n2 sl2) fv c (r + 1) k1 k2 k3 k4 vt ve vc vd) ts as 25 t tt v0 ts2 as2 ceA2_25) 5) (dval (tb2 w sc p pF p0 A B I (stL2 w.params A U B U2 I (listO d2 vs2 n2 sl2) fv c (r + 1) k1 k2 k3 k4 vt ve vc vd) ts as 25 t tt v0 ts2 as2 ceA2_25) 6) (dval (tb2 w sc p pF p0 A B I (stL2 w.params A U B U2 I (listO d2 vs2 n2 sl2) fv c (r + 1) k1 k2 k3 k4 vt ve vc vd) ts as 25 t tt v0 ts2 as2 ceA2_25) 7)) (KB2 w sc B) (.ok (.ret .none)) (tb2 w sc p pF p0 A B I (stL2 w.params A U B U2 I (listO d2 vs2 n2 sl2) fv c (r + 1) k1 k2 k3 k4 vt ve vc vd) ts as 25 t tt v0 ts2 as2 ceA2_25) ∧
    finL (stL2 w.params A U B U2 I (listO d2 vs2 n2 sl2) (.int (.ofNat t) tt) (c + 1) r k1 k2 k3 k4 (dval (tb2 w sc p pF p0 A B I (stL2 w.params A U B U2 I (listO d2 vs2 n2 sl2) fv c (r + 1) k1 k2 k3 k4 vt ve vc vd) ts as 26 t tt v0 ts2 as2 ceA2_26) 4) (dval (tb2 w sc p pF p0 A B I (stL2 w.params A U B U2 I (listO d2 vs2 n2 sl2) fv c (r + 1) k1 k2 k3 k4 vt ve vc vd) ts as 26 t tt v0 ts2 as2 ceA2_26) 5) (dval (tb2 w sc p pF p0 A B I (stL2 w.params A U B U2 I (listO d2 vs2 n2 sl2) fv c (r + 1) k1 k2 k3 k4 vt ve vc vd) ts as 26 t tt v0 ts2 as2 ceA2_26) 6) (dval (tb2 w sc p pF p0 A B I (stL2 w.params A U B U2 I (listO d2 vs2 n2 sl2) fv c (r + 1) k1 k2 k3 k4 vt ve vc vd) ts as 26 t tt v0 ts2 as2 ceA2_26) 7)) (tb2 w sc p pF p0 A B I (stL2 w.params A U B U2 I (listO d2 vs2 n2 sl2) fv c (r + 1) k1 k2 k3 k4 vt ve vc vd) ts as 26 t tt v0 ts2 as2 ceA2_26) = finR (stL2 w.params A U B U2 I (listO d2 vs2 n2 sl2) (.int (.ofNat t) tt) (c + 1) r k1 k2 k3 k4 (dval (tb2 w sc p pF p0 A B I (stL2 w.params A U B U2 I (listO d2 vs2 n2 sl2) fv c (r + 1) k1 k2 k3 k4 vt ve vc vd) ts as 26 t tt v0 ts2 as2 ceA2_26) 4) (dval (tb2 w sc p pF p0 A B I (stL2 w.params A U B U2 I (listO d2 vs2 n2 sl2) fv c (r + 1) k1 k2 k3 k4 vt ve vc vd) ts as 26 t tt v0 ts2 as2 ceA2_26) 5) (dval (tb2 w sc p pF p0 A B I (stL2 w.params A U B U2 I (listO d2 vs2 n2 sl2) fv c (r + 1) k1 k2 k3 k4 vt ve vc vd) ts as 26 t tt v0 ts2 as2 ceA2_26) 6) (dval (tb2 w sc p pF p0 A B I (stL2 w.params A U B U2 I (listO d2 vs2 n2 sl2) fv c (r + 1) k1 k2 k3 k4 vt ve vc vd) ts as 26 t tt v0 ts2 as2 ceA2_26) 7)) (KB2 w sc B) (.ok (.ret .none)) (tb2 w sc p pF p0 A B I (stL2 w.params A U B U2 I (listO d2 vs2 n2 sl2) fv c (r + 1) k1 k2 k3 k4 vt ve vc vd) ts as 26 t tt v0 ts2 as2 ceA2_26) ∧
    finL (stL2 w.params A U B U2 I (listO d2 vs2 n2 sl2) (.int (.ofNat t) tt) (c + 1) r k1 k2 k3 k4 (dval (tb2 w sc p pF p0 A B I (stL2 w.params A U B U2 I (listO d2 vs2 n2 sl2) fv c (r + 1) k1 k2 k3 k4 vt ve vc vd) ts as 27 t tt v0 ts2 as2 ceA2_27) 4) (dval (tb2 w sc p pF p0 A B I (stL2 w.params A U B U2 I (listO d2 vs2 n2 sl2) fv c (r + 1) k1 k2 k3 k4 vt ve vc vd) ts as 27 t tt v0 ts2 as2 ceA2_27) 5) (dval (tb2 w sc p pF p0 A B I (stL2 w.params A U B U2 I (listO d2 vs2 n2 sl2) fv c (r + 1) k1 k2 k3 k4 vt ve vc vd) ts as 27 t tt v0 ts2 as2 ceA2_27) 6) (dval (tb2 w sc p pF p0 A B I (stL2 w.params A U B U2 I (listO d2 vs2 n2 sl2) fv c (r + 1) k1 k2 k3 k4 vt ve vc vd) ts as 27 t tt v0 ts2 as2 ceA2_27) 7)) (tb2 w sc p pF p0 A B I (stL2 w.params A U B U2 I (listO d2 vs2 n2 sl2) fv c (r + 1) k1 k2 k3 k4 vt ve vc vd) ts as 27 t tt v0 ts2 as2 ceA2_27) = finR (stL2 w.params A U B U2 I (listO d2 vs2 n2 sl2) (.int (.ofNat t) tt) (c + 1) r k1 k2 k3 k4 (dval (tb2 w sc p pF p0 A B I (stL2 w.params A U B U2 I (listO d2 vs2 n2 sl2) fv c (r + 1) k1 k2 k3 k4 vt ve vc vd) ts as 27 t tt v0 ts2 as2 ceA2_27) 4) (dval (tb2 w sc p pF p0 A B I (stL2 w.params A U B U2 I (listO d2 vs2 n2 sl2) fv c (r + 1) k1 k2 k3 k4 vt ve vc vd) ts as 27 t tt v0 ts2 as2 ceA2_27) 5) (dval (tb2 w sc p pF p0 A B I (stL2 w.params A U B U2 I (listO d2 vs2 n2 sl2) fv c (r + 1) k1 k2 k3 k4 vt ve vc vd) ts as 27 t tt v0 ts2 as2 ceA2_27) 6) (dval (tb2 w sc p pF p0 A B I (stL2 w.params A U B U2 I (listO d2 vs2 n2 sl2) fv c (r + 1) k1 k2 k3 k4 vt ve vc vd) ts as 27 t tt v0 ts2 as2 ceA2_27) 7)) (KB2 w sc B) (.ok (.ret .none)) (tb2 w sc p pF p0 A B I (stL2 w.params A U B U2 I (listO d2 vs2 n2 sl2) fv c (r + 1) k1 k2 k3 k4 vt ve vc vd) ts as 27 t tt v0 ts2 as2 ceA2_27) ∧
    finL (stL2 w.params A U B U2 I (listO d2 vs2 n2 sl2) (.int (.ofNat t) tt) (c + 1) r k1 k2 k3 k4 (dval (tb2 w sc p pF p0 A B I (stL2 w.params A U B U2 I (listO d2 vs2 n2 sl2) fv c (r + 1) k1 k2 k3 k4 vt ve vc vd) ts as 28 t tt v0 ts2 as2 ceA2_28) 4) (dval (tb2 w sc p pF p0 A B I (stL2 w.params A U B U2 I (listO d2 vs2 n2 sl2) fv c (r + 1) k1 k2 k3 k4 vt ve vc vd) ts as 28 t tt v0 ts2 as2 ceA2_28) 5) (dval (tb2 w sc p pF p0 A B I (stL2 w.params A U B U2 I (listO d2 vs2 n2 sl2) fv c (r + 1) k1 k2 k3 k4 vt ve vc vd) ts as 28 t tt v0 ts2 as2 ceA2_28) 6) (dval (tb2 w sc p pF p0 A B I (stL2 w.params A U B U2 I (listO d2 vs2 n2 sl2) fv c (r + 1) k1 k2 k3 k4 vt ve vc vd) ts as 28 t tt v0 ts2 as2 ceA2_28) 7)) (tb2 w sc p pF p0 A B I (stL2 w.params A U B U2 I (listO d2 vs2 n2 sl2) fv c (r + 1) k1 k2 k3 k4 vt ve vc vd) ts as 28 t tt v0 ts2 as2 ceA2_28) = finR (stL2 w.params A U B U2 I (listO d2 vs2 n2 sl2) (.int (.ofNat t) tt) (c + 1) r k1 k2 k3 k4 (dval (tb2 w sc p pF p0 A B I (stL2 w.params A U B U2 I (listO d2 vs2 n2 sl2) fv c (r + 1) k1 k2 k3 k4 vt ve vc vd) ts as 28 t tt v0 ts2 as2 ceA2_28) 4) (dval (tb2 w sc p pF p0 A B I (stL2 w.params A U B U2 I (listO d2 vs2 n2 sl2) fv c (r + 1) k1 k2 k3 k4 vt ve vc vd) ts as 28 t tt v0 ts2 as2 ceA2_28) 5) (dval (tb2 w sc p pF p0 A B I (stL2 w.params A U B U2 I (listO d2 vs2 n2 sl2) fv c (r + 1) k1 k2 k3 k4 vt ve vc vd) ts as 28 t tt v0 ts2 as2 ceA2_28) 6) (dval (tb2 w sc p pF p0 A B I (stL2 w.params A U B U2 I (listO d2 vs2 n2 sl2) fv c (r + 1) k1 k2 k3 k4 vt ve vc vd) ts as 28 t tt v0 ts2 as2 ceA2_28) 7)) (KB2 w sc B) (.ok (.ret .none)) (tb2 w sc p pF p0 A B I (stL2 w.params A U B U2 I (listO d2 vs2 n2 sl2) fv c (r + 1) k1 k2 k3 k4 vt ve vc vd) ts as 28 t tt v0 ts2 as2 ceA2_28) ∧
    finL (stL2 w.params A U B U2 I (listO d2 vs2 n2 sl2) (.int (.ofNat t) tt) (c + 1) r k1 k2 k3 k4 (dval (tb2 w sc p pF p0 A B I (stL2 w.params A U B U2 I (listO d2 vs2 n2 sl2) fv c (r + 1) k1 k2 k3 k4 vt ve vc vd) ts as 29 t tt v0 ts2 as2 ceA2_29) 4) (dval (tb2 w sc p pF p0 A B I (stL2 w.params A U B U2 I (listO d2 vs2 n2 sl2) fv c (r + 1) k1 k2 k3 k4 vt ve vc vd) ts as 29 t tt v0 ts2 as2 ceA2_29) 5) (dval (tb2 w sc p pF p0 A B I (stL2 w.params A U B U2 I (listO d2 vs2 n2 sl2) fv c (r + 1) k1 k2 k3 k4 vt ve vc vd) ts as 29 t tt v0 ts2 as2 ceA2_29) 6) (dval (tb2 w sc p pF p0 A B I (stL2 w.params A U B U2 I (listO d2 vs2 n2 sl2) fv c (r + 1) k1 k2 k3 k4 vt ve vc vd) ts as 29 t tt v0 ts2 as2 ceA2_29) 7)) (tb2 w sc p pF p0 A B I (stL2 w.params A U B U2 I (listO d2 vs2 n2 sl2) fv c (r + 1) k1 k2 k3 k4 vt ve vc vd) ts as 29 t tt v0 ts2 as2 ceA2_29) = finR (stL2 w.params A U B U2 I (listO d2 vs2 n2 sl2) (.int (.ofNat t) tt) (c + 1) r k1 k2 k3 k4 (dval (tb2 w sc p pF p0 A B I (stL2 w.params A U B U2 I (listO d2 vs2 n2 sl2) fv c (r + 1) k1 k2 k3 k4 vt ve vc vd) ts as 29 t tt v0 ts2 as2 ceA2_29) 4) (dval (tb2 w sc p pF p0 A B I (stL2 w.params A U B U2 I (listO d2 vs2 n2 sl2) fv c (r + 1) k1 k2 k3 k4 vt ve vc vd) ts as 29 t tt v0 ts2 as2 ceA2_29) 5) (dval (tb2 w sc p pF p0 A B I (stL2 w.params A U B U2 I (listO d2 vs2 n2 sl2) fv c (r + 1) k1 k2 k3 k4 vt ve vc vd) ts as 29 t tt v0 ts2 as2 ceA2_29) 6) (dval (tb2 w sc p pF p0 A B I (stL2 w.params A U B U2 I (listO d2 vs2 n2 sl2) fv c (r + 1) k1 k2 k3 k4 vt ve vc vd) ts as 29 t tt v0 ts2 as2 ceA2_29) 7)) (KB2 w sc B) (.ok (.ret .none)) (tb2 w sc p pF p0 A B I (stL2 w.params A U B U2 I (listO d2 vs2 n2 sl2) fv c (r + 1) k1 k2 k3 k4 vt ve vc vd) ts as 29 t tt v0 ts2 as2 ceA2_29) ∧
    finL (stL2 w.params A U B U2 I (listO d2 vs2 n2 sl2) (.int (.ofNat t) tt) (c + 1) r k1 k2 k3 k4 (dval (tb2 w sc p pF p0 A B I (stL2 w.params A U B U2 I (listO d2 vs2 n2 sl2) fv c (r + 1) k1 k2 k3 k4 vt ve vc vd) ts as 30 t tt v0 ts2 as2 ceA2_30) 4) (dval (tb2 w sc p pF p0 A B I (stL2 w.params A U B U2 I (listO d2 vs2 n2 sl2) fv c (r + 1) k1 k2 k3 k4 vt ve vc vd) ts as 30 t tt v0 ts2 as2 ceA2_30) 5) (dval (tb2 w sc p pF p0 A B I (stL2 w.params A U B U2 I (listO d2 vs2 n2 sl2) fv c (r + 1) k1 k2 k3 k4 vt ve vc vd) ts as 30 t tt v0 ts2 as2 ceA2_30) 6) (dval (tb2 w sc p pF p0 A B I (stL2 w.params A U B U2 I (listO d2 vs2 n2 sl2) fv c (r + 1) k1 k2 k3 k4 vt ve vc vd) ts as 30 t tt v0 ts2 as2 ceA2_30) 7)) (tb2 w sc p pF p0 A B I (stL2 w.params A U B U2 I (listO d2 vs2 n2 sl2) fv c (r + 1) k1 k2 k3 k4 vt ve vc vd) ts as 30 t tt v0 ts2 as2 ceA2_30) = finR (stL2 w.params A U B U2 I (listO d2 vs2 n2 sl2) (.int (.ofNat t) tt) (c + 1) r k1 k2 k3 k4 (dval (tb2 w sc p pF p0 A B I (stL2 w.params A U B U2 I (listO d2 vs2 n2 sl2) fv c (r + 1) k1 k2 k3 k4 vt ve vc vd) ts as 30 t tt v0 ts2 as2 ceA2_30) 4) (dval (tb2 w sc p pF p0 A B I (stL2 w.params A U B U2 I (listO d2 vs2 n2 sl2) fv c (r + 1) k1 k2 k3 k4 vt ve vc vd) ts as 30 t tt v0 ts2 as2 ceA2_30) 5) (dval (tb2 w sc p pF p0 A B I (stL2 w.params A U B U2 I (listO d2 vs2 n2 sl2) fv c (r + 1) k1 k2 k3 k4 vt ve vc vd) ts as 30 t tt v0 ts2 as2 ceA2_30) 6) (dval (tb2 w sc p pF p0 A B I (stL2 w.params A U B U2 I (listO d2 vs2 n2 sl2) fv c (r + 1) k1 k2 k3 k4 vt ve vc vd) ts as 30 t tt v0 ts2 as2 ceA2_30) 7)) (KB2 w sc B) (.ok (.ret .none)) (tb2 w sc p pF p0 A B I (stL2 w.params A U B U2 I (listO d2 vs2 n2 sl2) fv c (r + 1) k1 k2 k3 k4 vt ve vc vd) ts as 30 t tt v0 ts2 as2 ceA2_30) ∧
    finL (stL2 w.params A U B U2 I (listO d2 vs2 n2 sl2) (.int (.ofNat t) tt) (c + 1) r k1 k2 k3 k4 (dval (tb2 w sc p pF p0 A B I (stL2 w.params A U B U2 I (listO d2 vs2 n2 sl2) fv c (r + 1) k1 k2 k3 k4 vt ve vc vd) ts as 31 t tt v0 ts2 as2 ceA2_31) 4) (dval (tb2 w sc p pF p0 A B I (stL2 w.params A U B U2 I (listO d2 vs2 n2 sl2) fv c (r + 1) k1 k2 k3 k4 vt ve vc vd) ts as 31 t tt v0 ts2 as2 ceA2_31) 5) (dval (tb2 w sc p pF p0 A B I (stL2 w.params A U B U2 I (listO d2 vs2 n2 sl2) fv c (r + 1) k1 k2 k3 k4 vt ve vc vd) ts as 31 t tt v0 ts2 as2 ceA2_31) 6) (dval (tb2 w sc p pF p0 A B I (stL2 w.params A U B U2 I (listO d2 vs2 n2 sl2) fv c (r + 1) k1 k2 k3 k4 vt ve vc vd) ts as 31 t tt v0 ts2 as2 ceA2_31) 7)) (tb2 w sc p pF p0 A B I (stL2 w.params A U B U2 I (listO d2 vs2 n2 sl2) fv c (r + 1) k1 k2 k3 k4 vt ve vc vd) ts as 31 t tt v0 ts2 as2 ceA2_31) = finR (stL2 w.params A U B U2 I (listO d2 vs2 n2 sl2) (.int (.ofNat t) tt) (c + 1) r k1 k2 k3 k4 (dval (tb2 w sc p pF p0 A B I (stL2 w.params A U B U2 I (listO d2 vs2 n2 sl2) fv c (r + 1) k1 k2 k3 k4 vt ve vc vd) ts as 31 t tt v0 ts2 as2 ceA2_31) 4) (dval (tb2 w sc p pF p0 A B I (stL2 w.params A U B U2 I (listO d2 vs2 n2 sl2) fv c (r + 1) k1 k2 k3 k4 vt ve vc vd) ts as 31 t tt v0 ts2 as2 ceA2_31) 5) (dval (tb2 w sc p pF p0 A B I (stL2 w.params A U B U2 I (listO d2 vs2 n2 sl2) fv c (r + 1) k1 k2 k3 k4 vt ve vc vd) ts as 31 t tt v0 ts2 as2 ceA2_31) 6) (dval (tb2 w sc p pF p0 A B I (stL2 w.params A U B U2 I (listO d2 vs2 n2 sl2) fv c (r + 1) k1 k2 k3 k4 vt ve vc vd) ts as 31 t tt v0 ts2 as2 ceA2_31) 7)) (KB2 w sc B) (.ok (.ret .none)) (tb2 w sc p pF p0 A B I (stL2 w.params A U B U2 I (listO d2 vs2 n2 sl2) fv c (r + 1) k1 k2 k3 k4 vt ve vc vd) ts as 31 t tt v0 ts2 as2 ceA2_31) ∧
    finL (stL2 w.params A U B U2 I (listO d2 vs2 n2 sl2) (.int (.ofNat t) tt) (c + 1) r k1 k2 k3 k4 (dval (tb2 w sc p pF p0 A B I (stL2 w.params A U B U2 I (listO d2 vs2 n2 sl2) fv c (r + 1) k1 k2 k3 k4 vt ve vc vd) ts as 32 t tt v0 ts2 as2 ceA2_32) 4) (dval (tb2 w sc p pF p0 A B I (stL2 w.params A U B U2 I (listO d2 vs2 n2 sl2) fv c (r + 1) k1 k2 k3 k4 vt ve vc vd) ts as 32 t tt v0 ts2 as2 ceA2_32) 5) (dval (tb2 w sc p pF p0 A B I (stL2 w.params A U B U2 I (listO d2 vs2 n2 sl2) fv c (r + 1) k1 k2 k3 k4 vt ve vc vd) ts as 32 t tt v0 ts2 as2 ceA2_32) 6) (dval (tb2 w sc p pF p0 A B I (stL2 w.params A U B U2 I (listO d2 vs2 n2 sl2) fv c (r + 1) k1 k2 k3 k4 vt ve vc vd) ts as 32 t tt v0 ts2 as2 ceA2_32) 7)) (tb2 w sc p pF p0 A B I (stL2 w.params A U B U2 I (listO d2 vs2 n2 sl2) fv c (r + 1) k1 k2 k3 k4 vt ve vc vd) ts as 32 t tt v0 ts2 as2 ceA2_32) = finR (stL2 w.params A U B U2 I (listO d2 vs2 n2 sl2) (.int (.ofNat t) tt) (c + 1) r k1 k2 k3 k4 (dval (tb2 w sc p pF p0 A B I (stL2 w.params A U B U2 I (listO d2 vs2 n2 sl2) fv c (r + 1) k1 k2 k3 k4 vt ve vc vd) ts as 32 t tt v0 ts2 as2 ceA2_32) 4) (dval (tb2 w sc p pF p0 A B I (stL2 w.params A U B U2 I (listO d2 vs2 n2 sl2) fv c (r + 1) k1 k2 k3 k4 vt ve vc vd) ts as 32 t tt v0 ts2 as2 ceA2_32) 5) (dval (tb2 w sc p pF p0 A B I (stL2 w.params A U B U2 I (listO d2 vs2 n2 sl2) fv c (r + 1) k1 k2 k3 k4 vt ve vc vd) ts as 32 t tt v0 ts2 as2 ceA2_32) 6) (dval (tb2 w sc p pF p0 A B I (stL2 w.params A U B U2 I (listO d2 vs2 n2 sl2) fv c (r + 1) k1 k2 k3 k4 vt ve vc vd) ts as 32 t tt v0 ts2 as2 ceA2_32) 7)) (KB2 w sc B) (.ok (.ret .none)) (tb2 w sc p pF p0 A B I (stL2 w.params A U B U2 I (listO d2 vs2 n2 sl2) fv c (r + 1) k1 k2 k3 k4 vt ve vc vd) ts as 32 t tt v0 ts2 as2 ceA2_32) ∧
    finL (stL2 w.params A U B U2 I (listO d2 vs2 n2 sl2) (.int (.ofNat t) tt) (c + 1) r k1 k2 k3 k4 (dval (tb2 w sc p pF p0 A B I (stL2 w.params A U B U2 I (listO d2 vs2 n2 sl2) fv c (r + 1) k1 k2 k3 k4 vt ve vc vd) ts as 33 t tt v0 ts2 as2 ceA2_33) 4) (dval (tb2 w sc p pF p0 A B I (stL2 w.params A U B U2 I (listO d2 vs2 n2 sl2) fv c (r + 1) k1 k2 k3 k4 vt ve vc vd) ts as 33 t tt v0 ts2 as2 ceA2_33) 5) (dval (tb2 w sc p pF p0 A B I (stL2 w.params A U B U2 I (listO d2 vs2 n2 sl2) fv c (r + 1) k1 k2 k3 k4 vt ve vc vd) ts as 33 t tt v0 ts2 as2 ceA2_33) 6) (dval (tb2 w sc p pF p0 A B I (stL2 w.params A U B U2 I (listO d2 vs2 n2 sl2) fv c (r + 1) k1 k2 k3 k4 vt ve vc vd) ts as 33 t tt v0 ts2 as2 ceA2_33) 7)) (tb2 w sc p pF p0 A B I (stL2 w.params A U B U2 I (listO d2 vs2 n2 sl2) fv c (r + 1) k1 k2 k3 k4 vt ve vc vd) ts as 33 t tt v0 ts2 as2 ceA2_33) = finR (stL2 w.params A U B U2 I (listO d2 vs2 n2 sl2) (.int (.ofNat t) tt) (c + 1) r k1 k2 k3 k4 (dval (tb2 w sc p pF p0 A B I (stL2 w.params A U B U2 I (listO d2 vs2 n2 sl2) fv c (r + 1) k1 k2 k3 k4 vt ve vc vd) ts as 33 t tt v0 ts2 as2 ceA2_33) 4) (dval (tb2 w sc p pF p0 A B I (stL2 w.params A U B U2 I (listO d2 vs2 n2 sl2) fv c (r + 1) k1 k2 k3 k4 vt ve vc vd) ts as 33 t tt v0 ts2 as2 ceA2_33) 5) (dval (tb2 w sc p pF p0 A B I (stL2 w.params A U B U2 I (listO d2 vs2 n2 sl2) fv c (r + 1) k1 k2 k3 k4 vt ve vc vd) ts as 33 t tt v0 ts2 as2 ceA2_33) 6) (dval (tb2 w sc p pF p0 A B I (stL2 w.params A U B U2 I (listO d2 vs2 n2 sl2) fv c (r + 1) k1 k2 k3 k4 vt ve vc vd) ts as 33 t tt v0 ts2 as2 ceA2_33) 7)) (KB2 w sc B) (.ok (.ret .none)) (tb2 w sc p pF p0 A B I (stL2 w.params A U B U2 I (listO d2 vs2 n2 sl2) fv c (r + 1) k1 k2 k3 k4 vt ve vc vd) ts as 33 t tt v0 ts2 as2 ceA2_33) ∧
    finL (stL2 w.params A U B U2 I (listO d2 vs2 n2 sl2) (.int (.ofNat t) tt) (c + 1) r k1 k2 k3 k4 (dval (tb2 w sc p pF p0 A B I (stL2 w.params A U B U2 I (listO d2 vs2 n2 sl2) fv c (r + 1) k1 k2 k3 k4 vt ve vc vd) ts as 34 t tt v0 ts2 as2 ceA2_34) 4) (dval (tb2 w sc p pF p0 A B I (stL2 w.params A U B U2 I (listO d2 vs2 n2 sl2) fv c (r + 1) k1 k2 k3 k4 vt ve vc vd) ts as 34 t tt v0 ts2 as2 ceA2_34) 5) (dval (tb2 w sc p pF p0 A B I (stL2 w.params A U B U2 I (listO d2 vs2 n2 sl2) fv c (r + 1) k1 k2 k3 k4 vt ve vc vd) ts as 34 t tt v0 ts2 as2 ceA2_34) 6) (dval (tb2 w sc p pF p0 A B I (stL2 w.params A U B U2 I (listO d2 vs2 n2 sl2) fv c (r + 1) k1 k2 k3 k4 vt ve vc vd) ts as 34 t tt v0 ts2 as2 ceA2_34) 7)) (tb2 w sc p pF p0 A B I (stL2 w.params A U B U2 I (listO d2 vs2 n2 sl2) fv c (r + 1) k1 k2 k3 k4 vt ve vc vd) ts as 34 t tt v0 ts2 as2 ceA2_34) = finR (stL2 w.params A U B U2 I (listO d2 vs2 n2 sl2) (.int (.ofNat t) tt) (c + 1) r k1 k2 k3 k4 (dval (tb2 w sc p pF p0 A B I (stL2 w.params A U B U2 I (listO d2 vs2 n2 sl2) fv c (r + 1) k1 k2 k3 k4 vt ve vc vd) ts as 34 t tt v0 ts2 as2 ceA2_34) 4) (dval (tb2 w sc p pF p0 A B I (stL2 w.params A U B U2 I (listO d2 vs2 n2 sl2) fv c (r + 1) k1 k2 k3 k4 vt ve vc vd) ts as 34 t tt v0 ts2 as2 ceA2_34) 5) (dval (tb2 w sc p pF p0 A B I (stL2 w.params A U B U2 I (listO d2 vs2 n2 sl2) fv c (r + 1) k1 k2 k3 k4 vt ve vc vd) ts as 34 t tt v0 ts2 as2 ceA2_34) 6) (dval (tb2 w sc p pF p0 A B I (stL2 w.params A U B U2 I (listO d2 vs2 n2 sl2) fv c (r + 1) k1 k2 k3 k4 vt ve vc vd) ts as 34 t tt v0 ts2 as2 ceA2_34) 7)) (KB2 w sc B) (.ok (.ret .none)) (tb2 w sc p pF p0 A B I (stL2 w.params A U B U2 I (listO d2 vs2 n2 sl2) fv c (r + 1) k1 k2 k3 k4 vt ve vc vd) ts as 34 t tt v0 ts2 as2 ceA2_34) :=
  ⟨by kernel_rfl, by kernel_rfl, by kernel_rfl, by kernel_rfl, by kernel_rfl, by kernel_rfl, by kernel_rfl, by kernel_rfl, by kernel_rfl, by kernel_rfl, by kernel_rfl⟩
set_option maxHeartbeats 0 in
theorem tb2_g3 (w : World) (sc : Obj) (d2 : Option Addr) (vs2 : Array Value) (n2 : Nat) (sl2 : Array (Option Value)) (p pF p0 : Pos) (A U B U2 : Nat → Nat) (I : Nat) (fv : Value) (c r k1 k2 k3 k4 : Nat) (vt ve vc vd : Value) (ts as : Nat → Nat) (t tt v0 : Nat) (ts2 as2 : Nat → Nat) :
    finL (stL2 w.params A U B U2 I (listO d2 vs2 n2 sl2) (.int (.ofNat t) tt) (c + 1) r k1 k2 k3 k4 (dval (tb2 w sc p pF p0 A B I (stL2 w.params A U B U2 I (listO d2 vs2 n2 sl2) fv c (r + 1) k1 k2 k3 k4 vt ve vc vd) ts as 35 t tt v0 ts2 as2 ceA2_35) 4) (dval (tb2 w sc p pF p0 A B I (stL2 w.params A U B U2 I (listO d2 vs2 n2 sl2) fv c (r + 1) k1 k2 k3 k4 vt ve vc vd) ts as 35 t tt v0 ts2 as2 ceA2_35) 5) (dval (tb2 w sc p pF p0 A B I (stL2 w.params A U B U2 I (listO d2 vs2 n2 sl2) fv c (r + 1) k1 k2 k3 k4 vt ve vc vd) ts as 35 t tt v0 ts2 as2 ceA2_35) 6) (dval (tb2 w sc p pF p0 A B I (stL2 w.params A U B U2 I (listO d2 vs2 n2 sl2) fv c (r + 1) k1 k2 k3 k4 vt ve vc vd) ts as 35 t tt v0 ts2 as2 ceA2_35) 7)) (tb2 w sc p pF p0 A B I (stL2 w.params A U B U2 I (listO d2 vs2 n2 sl2) fv c (r + 1) k1 k2 k3 k4 vt ve vc vd) ts as 35 t tt v0 ts2 as2 ceA2_35) = finR (stL2 w.params A U B U2 I (listO d2 vs2 n2 sl2) (.int (.ofNat t) tt) (c + 1) r k1 k2 k3 k4 (dval (tb2 w sc p pF p0 A B I (stL2 w.params A U B U2 I (listO d2 vs2 n2 sl2) fv c (r + 1) k1 k2 k3 k4 vt ve vc vd) ts as 35 t tt v0 ts2 as2 ceA2_35) 4) (dval (tb2 w sc p pF p0 A B I (stL2 w.params A U B U2 I (listO d2 vs2 n2 sl2) fv c (r + 1) k1 k2 k3 k4 vt ve vc vd) ts as 35 t tt v0 ts2 as2 ceA2_35) 5) (dval (tb2 w sc p pF p0 A B I (stL2 w.params A U B U2 I (listO d2 vs2 n2 sl2) fv c (r + 1) k1 k2 k3 k4 vt ve vc vd) ts as 35 t tt v0 ts2 as2 ceA2_35) 6) (dval (tb2 w sc p pF p0 A B I (stL2 w.params A U B U2 I (listO d2 vs2 n2 sl2) fv c (r + 1) k1 k2 k3 k4 vt ve vc vd) ts as 35 t tt v0 ts2 as2 ceA2_35) 7)) (KB2 w sc B) (.ok (.ret .none)) (tb2 w sc p pF p0 A B I (stL2 w.params A U B U2 I (listO d2 vs2 n2 sl2) fv c (r + 1) k1 k2 k3 k4 vt ve vc vd) ts as 35 t tt v0 ts2 as2 ceA2_35) ∧
    finL (stL2 w.params A U B U2 I (listO d2 vs2 n2 sl2) (.int (.ofNat t) tt) (c + 1) r k1 k2 k3 k4 (dval (tb2 w sc p pF p0 A B I (stL2 w.params A U B U2 I (listO d2 vs2 n2 sl2) fv c (r + 1) k1 k2 k3 k4 vt ve vc vd) ts as 36 t tt v0 ts2 as2 ceA2_36) 4) (dval (tb2 w sc p pF p0 A B I (stL2 w.params A U B U2 I (listO d2 vs2 n2 sl2) fv c (r + 1) k1 k2 k3 k4 vt ve vc vd) ts as 36 t tt v0 ts2 as2 ceA2_36) 5) (dval (tb2 w sc p pF p0 A B I (stL2 w.params A U B U2 I (listO d2 vs2 n2 sl2) fv c (r + 1) k1 k2 k3 k4 vt ve vc vd) ts as 36 t tt v0 ts2 as2 ceA2_36) 6) (dval (tb2 w sc p pF p0 A B I (stL2 w.params A U B U2 I (listO d2 vs2 n2 sl2) fv c (r + 1) k1 k2 k3 k4 vt ve vc vd) ts as 36 t tt v0 ts2 as2 ceA2_36) 7)) (tb2 w sc p pF p0 A B I (stL2 w.params A U B U2 I (listO d2 vs2 n2 sl2) fv c (r + 1) k1 k2 k3 k4 vt ve vc vd) ts as 36 t tt v0 ts2 as2 ceA2_36) = finR (stL2 w.params A U B U2 I (listO d2 vs2 n2 sl2) (.int (.ofNat t) tt) (c + 1) r k1 k2 k3 k4 (dval (tb2 w sc p pF p0 A B I (stL2 w.params A U B U2 I (listO d2 vs2 n2 sl2) fv c (r + 1) k1 k2 k3 k4 vt ve vc vd) ts as 36 t tt v0 ts2 as2 ceA2_36) 4) (dval (tb2 w sc p pF p0 A B I (stL2 w.params A U B U2 I (listO d2 vs2 n2 sl2) fv c (r + 1) k1 k2 k3 k4 vt ve vc vd) ts as 36 t tt v0 ts2 as2 ceA2_36) 5) (dval (tb2 w sc p pF p0 A B I (stL2 w.params A U B U2 I (listO d2 vs2 n2 sl2) fv c (r + 1) k1 k2 k3 k4 vt ve vc vd) ts as 36 t tt v0 ts2 as2 ceA2_36) 6) (dval (tb2 w sc p pF p0 A B I (stL2 w.params A U B U2 I (listO d2 vs2 n2 sl2) fv c (r + 1) k1 k2 k3 k4 vt ve vc vd) ts as 36 t tt v0 ts2 as2 ceA2_36) 7)) (KB2 w sc B) (.ok (.ret .none)) (tb2 w sc p pF p0 A B I (stL2 w.params A U B U2 I (listO d2 vs2 n2 sl2) fv c (r + 1) k1 k2 k3 k4 vt ve vc vd) ts as 36 t tt v0 ts2 as2 ceA2_36) ∧
    finL (stL2 w.params A U B U2 I (listO d2 vs2 n2 sl2) (.int (.ofNat t) tt) (c + 1) r k1 k2 k3 k4 (dval (tb2 w sc p pF p0 A B I (stL2 w.params A U B U2 I (listO d2 vs2 n2 sl2) fv c (r + 1) k1 k2 k3 k4 vt ve vc vd) ts as 37 t tt v0 ts2 as2 ceA2_37) 4) (dval (tb2 w sc p pF p0 A B I (stL2 w.params A U B U2 I (listO d2 vs2 n2 sl2) fv c (r + 1) k1 k2 k3 k4 vt ve vc vd) ts as 37 t tt v0 ts2 as2 ceA2_37) 5) (dval (tb2 w sc p pF p0 A B I (stL2 w.params A U B U2 I (listO d2 vs2 n2 sl2) fv c (r + 1) k1 k2 k3 k4 vt ve vc vd) ts as 37 t tt v0 ts2 as2 ceA2_37) 6) (dval (tb2 w sc p pF p0 A B I (stL2 w.params A U B U2 I (listO d2 vs2 n2 sl2) fv c (r + 1) k1 k2 k3 k4 vt ve vc vd) ts as 37 t tt v0 ts2 as2 ceA2_37) 7)) (tb2 w sc p pF p0 A B I (stL2 w.params A U B U2 I (listO d2 vs2 n2 sl2) fv c (r + 1) k1 k2 k3 k4 vt ve vc vd) ts as 37 t tt v0 ts2 as2 ceA2_37) = finR (stL2 w.params A U B U2 I (listO d2 vs2 n2 sl2) (.int (.ofNat t) tt) (c + 1) r k1 k2 k3 k4 (dval (tb2 w sc p pF p0 A B I (stL2 w.params A U B U2 I (listO d2 vs2 n2 sl2) fv c (r + 1) k1 k2 k3 k4 vt ve vc vd) ts as 37 t tt v0 ts2 as2 ceA2_37) 4) (dval (tb2 w sc p pF p0 A B I (stL2 w.params A U B U2 I (listO d2 vs2 n2 sl2) fv c (r + 1) k1 k2 k3 k4 vt ve vc vd) ts as 37 t tt v0 ts2 as2 ceA2_37) 5) (dval (tb2 w sc p pF p0 A B I (stL2 w.params A U B U2 I (listO d2 vs2 n2 sl2) fv c (r + 1) k1 k2 k3 k4 vt ve vc vd) ts as 37 t tt v0 ts2 as2 ceA2_37) 6) (dval (tb2 w sc p pF p0 A B I (stL2 w.params A U B U2 I (listO d2 vs2 n2 sl2) fv c (r + 1) k1 k2 k3 k4 vt ve vc vd) ts as 37 t tt v0 ts2 as2 ceA2_37) 7)) (KB2 w sc B) (.ok (.ret .none)) (tb2 w sc p pF p0 A B I (stL2 w.params A U B U2 I (listO d2 vs2 n2 sl2) fv c (r + 1) k1 k2 k3 k4 vt ve vc vd) ts as 37 t tt v0 ts2 as2 ceA2_37) ∧
    finL (stL2 w.params A U B U2 I (listO d2 vs2 n2 sl2) (.int (.ofNat t) tt) (c + 1) r k1 k2 k3 k4 (dval (tb2 w sc p pF p0 A B I (stL2 w.params A U B U2 I (listO d2 vs2 n2 sl2) fv c (r + 1) k1 k2 k3 k4 vt ve vc vd) ts as 38 t tt v0 ts2 as2 ceA2_38) 4) (dval (tb2 w sc p pF p0 A B I (stL2 w.params A U B U2 I (listO d2 vs2 n2 sl2) fv c (r + 1) k1 k2 k3 k4 vt ve vc vd) ts as 38 t tt v0 ts2 as2 ceA2_38) 5) (dval (tb2 w sc p pF p0 A B I (stL2 w.params A U B U2 I (listO d2 vs2 n2 sl2) fv c (r + 1) k1 k2 k3 k4 vt ve vc vd) ts as 38 t tt v0 ts2 as2 ceA2_38) 6) (dval (tb2 w sc p pF p0 A B I (stL2 w.params A U B U2 I (listO d2 vs2 n2 sl2) fv c (r + 1) k1 k2 k3 k4 vt ve vc vd) ts as 38 t tt v0 ts2 as2 ceA2_38) 7)) (tb2 w sc p pF p0 A B I (stL2 w.params A U B U2 I (listO d2 vs2 n2 sl2) fv c (r + 1) k1 k2 k3 k4 vt ve vc vd) ts as 38 t tt v0 ts2 as2 ceA2_38) = finR (stL2 w.params A U B U2 I (listO d2 vs2 n2 sl2) (.int (.ofNat t) tt) (c + 1) r k1 k2 k3 k4 (dval (tb2 w sc p pF p0 A B I (stL2 w.params A U B U2 I (listO d2 vs2 n2 sl2) fv c (r + 1) k1 k2 k3 k4 vt ve vc vd) ts as 38 t tt v0 ts2 as2 ceA2_38) 4) (dval (tb2 w sc p pF p0 A B I (stL2 w.params A U B U2 I (listO d2 vs2 n2 sl2) fv c (r + 1) k1 k2 k3 k4 vt ve vc vd) ts as 38 t tt v0 ts2 as2 ceA2_38) 5) (dval (tb2 w sc p pF p0 A B I (stL2 w.params A U B U2 I (listO d2 vs2 n2 sl2) fv c (r + 1) k1 k2 k3 k4 vt ve vc vd) ts as 38 t tt v0 ts2 as2 ceA2_38) 6) (dval (tb2 w sc p pF p0 A B I (stL2 w.params A U B U2 I (listO d2 vs2 n2 sl2) fv c (r + 1) k1 k2 k3 k4 vt ve vc vd) ts as 38 t tt v0 ts2 as2 ceA2_38) 7)) (KB2 w sc B) (.ok (.ret .none)) (tb2 w sc p pF p0 A B I (stL2 w.params A U B U2 I (listO d2 vs2 n2 sl2) fv c (r + 1) k1 k2 k3 k4 vt ve vc vd) ts as 38 t tt v0 ts2 as2 ceA2_38) ∧
    finL (stL2 w.params A U B U2 I (listO d2 vs2 n2 sl2) (.int (.ofNat t) tt) (c + 1) r k1 k2 k3 k4 (dval (tb2 w sc p pF p0 A B I (stL2 w.params A U B U2 I (listO d2 vs2 n2 sl2) fv c (r + 1) k1 k2 k3 k4 vt ve vc vd) ts as 39 t tt v0 ts2 as2 ceA2_39) 4) (dval (tb2 w sc p pF p0 A B I (stL2 w.params A U B U2 I (listO d2 vs2 n2 sl2) fv c (r + 1) k1 k2 k3 k4 vt ve vc vd) ts as 39 t tt v0 ts2 as2 ceA2_39) 5) (dval (tb2 w sc p pF p0 A B I (stL2 w.params A U B U2 I (listO d2 vs2 n2 sl2) fv c (r + 1) k1 k2 k3 k4 vt ve vc vd) ts as 39 t tt v0 ts2 as2 ceA2_39) 6) (dval (tb2 w sc p pF p0 A B I (stL2 w.params A U B U2 I (listO d2 vs2 n2 sl2) fv c (r + 1) k1 k2 k3 k4 vt ve vc vd) ts as 39 t tt v0 ts2 as2 ceA2_39) 7)) (tb2 w sc p pF p0 A B I (stL2 w.params A U B U2 I (listO d2 vs2 n2 sl2) fv c (r + 1) k1 k2 k3 k4 vt ve vc vd) ts as 39 t tt v0 ts2 as2 ceA2_39) = finR (stL2 w.params A U B U2 I (listO d2 vs2 n2 sl2) (.int (.ofNat t) tt) (c + 1) r k1 k2 k3 k4 (dval (tb2 w sc p pF p0 A B I (stL2 w.params A U B U2 I (listO d2 vs2 n2 sl2) fv c (r + 1) k1 k2 k3 k4 vt ve vc vd) ts as 39 t tt v0 ts2 as2 ceA2_39) 4) (dval (tb2 w sc p pF p0 A B I (stL2 w.params A U B U2 I (listO d2 vs2 n2 sl2) fv c (r + 1) k1 k2 k3 k4 vt ve vc vd) ts as 39 t tt v0 ts2 as2 ceA2_39) 5) (dval (tb2 w sc p pF p0 A B I (stL2 w.params A U B U2 I (listO d2 vs2 n2 sl2) fv c (r + 1) k1 k2 k3 k4 vt ve vc vd) ts as 39 t tt v0 ts2 as2 ceA2_39) 6) (dval (tb2 w sc p pF p0 A B I (stL2 w.params A U B U2 I (listO d2 vs2 n2 sl2) fv c (r + 1) k1 k2 k3 k4 vt ve vc vd) ts as 39 t tt v0 ts2 as2 ceA2_39) 7)) (KB2 w sc B) (.ok (.ret .none)) (tb2 w sc p pF p0 A B I (stL2 w.params A U B U2 I (listO d2 vs2 n2 sl2) fv c (r + 1) k1 k2 k3 k4 vt ve vc vd) ts as 39 t tt v0 ts2 as2 ceA2_39) ∧
    finL (stL2 w.params A U B U2 I (listO d2 vs2 n2 sl2) (.int (.ofNat t) tt) (c + 1) r k1 k2 k3 k4 (dval (tb2 w sc p pF p0 A B I (stL2 w.params A U B U2 I (listO d2 vs2 n2 sl2) fv c (r + 1) k1 k2 k3 k4 vt ve vc vd) ts as 40 t tt v0 ts2 as2 ceA2_40) 4) (dval (tb2 w sc p pF p0 A B I (stL2 w.params A U B U2 I (listO d2 vs2 n2 sl2) fv c (r + 1) k1 k2 k3 k4 vt ve vc vd) ts as 40 t tt v0 ts2 as2 ceA2_40) 5) (dval (tb2 w sc p pF p0 A B I (stL2 w.params A U B U2 I (listO d2 vs2 n2 sl2) fv c (r + 1) k1 k2 k3 k4 vt ve vc vd) ts as 40 t tt v0 ts2 as2 ceA2_40) 6) (dval (tb2 w sc p pF p0 A B I (stL2 w.params A U B U2 I (listO d2 vs2 n2 sl2) fv c (r + 1) k1 k2 k3 k4 vt ve vc vd) ts as 40 t tt v0 ts2 as2 ceA2_40) 7)) (tb2 w sc p pF p0 A B I (stL2 w.params A U B U2 I (listO d2 vs2 n2 sl2) fv c (r + 1) k1 k2 k3 k4 vt ve vc vd) ts as 40 t tt v0 ts2 as2 ceA2_40) = finR (stL2 w.params A U B U2 I (listO d2 vs2 n2 sl2) (.int (.ofNat t) tt) (c + 1) r k1 k2 k3 k4 (dval (tb2 w sc p pF p0 A B I (stL2 w.params A U B U2 I (listO d2 vs2 n2 sl2) fv c (r + 1) k1 k2 k3 k4 vt ve vc vd) ts as 40 t tt v0 ts2 as2 ceA2_40) 4) (dval (tb2 w sc p pF p0 A B I (stL2 w.params A U B U2 I (listO d2 vs2 n2 sl2) fv c (r + 1) k1 k2 k3 k4 vt ve vc vd) ts as 40 t tt v0 ts2 as2 ceA2_40) 5) (dval (tb2 w sc p pF p0 A B I (stL2 w.params A U B U2 I (listO d2 vs2 n2 sl2) fv c (r + 1) k1 k2 k3 k4 vt ve vc vd) ts as 40 t tt v0 ts2 as2 ceA2_40) 6) (dval (tb2 w sc p pF p0 A B I (stL2 w.params A U B U2 I (listO d2 vs2 n2 sl2) fv c (r + 1) k1 k2 k3 k4 vt ve vc vd) ts as 40 t tt v0 ts2 as2 ceA2_40) 7)) (KB2 w sc B) (.ok (.ret .none)) (tb2 w sc p pF p0 A B I (stL2 w.params A U B U2 I (listO d2 vs2 n2 sl2) fv c (r + 1) k1 k2 k3 k4 vt ve vc vd) ts as 40 t tt v0 ts2 as2 ceA2_40) ∧
    finL (stL2 w.params A U B U2 I (listO d2 vs2 n2 sl2) (.int (.ofNat t) tt) (c + 1) r k1 k2 k3 k4 (dval (tb2 w sc p pF p0 A B I (stL2 w.params A U B U2 I (listO d2 vs2 n2 sl2) fv c (r + 1) k1 k2 k3 k4 vt ve vc vd) ts as 41 t tt v0 ts2 as2 ceA2_41) 4) (dval (tb2 w sc p pF p0 A B I (stL2 w.params A U B U2 I (listO d2 vs2 n2 sl2) fv c (r + 1) k1 k2 k3 k4 vt ve vc vd) ts as 41 t tt v0 ts2 as2 ceA2_41) 5) (dval (tb2 w sc p pF p0 A B I (stL2 w.params A U B U2 I (listO d2 vs2 n2 sl2) fv c (r + 1) k1 k2 k3 k4 vt ve vc vd) ts as 41 t tt v0 ts2 as2 ceA2_41) 6) (dval (tb2 w sc p pF p0 A B I (stL2 w.params A U B U2 I (listO d2 vs2 n2 sl2) fv c (r + 1) k1 k2 k3 k4 vt ve vc vd) ts as 41 t tt v0 ts2 as2 ceA2_41) 7)) (tb2 w sc p pF p0 A B I (stL2 w.params A U B U2 I (listO d2 vs2 n2 sl2) fv c (r + 1) k1 k2 k3 k4 vt ve vc vd) ts as 41 t tt v0 ts2 as2 ceA2_41) = finR (stL2 w.params A U B U2 I (listO d2 vs2 n2 sl2) (.int (.ofNat t) tt) (c + 1) r k1 k2 k3 k4 (dval (tb2 w sc p pF p0 A B I (stL2 w.params A U B U2 I (listO d2 vs2 n2 sl2) fv c (r + 1) k1 k2 k3 k4 vt ve vc vd) ts as 41 t tt v0 ts2 as2 ceA2_41) 4) (dval (tb2 w sc p pF p0 A B I (stL2 w.params A U B U2 I (listO d2 vs2 n2 sl2) fv c (r + 1) k1 k2 k3 k4 vt ve vc vd) ts as 41 t tt v0 ts2 as2 ceA2_41) 5) (dval (tb2 w sc p pF p0 A B I (stL2 w.params A U B U2 I (listO d2 vs2 n2 sl2) fv c (r + 1) k1 k2 k3 k4 vt ve vc vd) ts as 41 t tt v0 ts2 as2 ceA2_41) 6) (dval (tb2 w sc p pF p0 A B I (stL2 w.params A U B U2 I (listO d2 vs2 n2 sl2) fv c (r + 1) k1 k2 k3 k4 vt ve vc vd) ts as 41 t tt v0 ts2 as2 ceA2_41) 7)) (KB2 w sc B) (.ok (.ret .none)) (tb2 w sc p pF p0 A B I (stL2 w.params A U B U2 I (listO d2 vs2 n2 sl2) fv c (r + 1) k1 k2 k3 k4 vt ve vc vd) ts as 41 t tt v0 ts2 as2 ceA2_41) ∧
    finL (stL2 w.params A U B U2 I (listO d2 vs2 n2 sl2) (.int (.ofNat t) tt) (c + 1) r k1 k2 k3 k4 (dval (tb2 w sc p pF p0 A B I (stL2 w.params A U B U2 I (listO d2 vs2 n2 sl2) fv c (r + 1) k1 k2 k3 k4 vt ve vc vd) ts as 42 t tt v0 ts2 as2 ceA2_42) 4) (dval (tb2 w sc p pF p0 A B I (stL2 w.params A U B U2 I (listO d2 vs2 n2 sl2) fv c (r + 1) k1 k2 k3 k4 vt ve vc vd) ts as 42 t tt v0 ts2 as2 ceA2_42) 5) (dval (tb2 w sc p pF p0 A B I (stL2 w.params A U B U2 I (listO d2 vs2 n2 sl2) fv c (r + 1) k1 k2 k3 k4 vt ve vc vd) ts as 42 t tt v0 ts2 as2 ceA2_42) 6) (dval (tb2 w sc p pF p0 A B I (stL2 w.params A U B U2 I (listO d2 vs2 n2 sl2) fv c (r + 1) k1 k2 k3 k4 vt ve vc vd) ts as 42 t tt v0 ts2 as2 ceA2_42) 7)) (tb2 w sc p pF p0 A B I (stL2 w.params A U B U2 I (listO d2 vs2 n2 sl2) fv c (r + 1) k1 k2 k3 k4 vt ve vc vd) ts as 42 t tt v0 ts2 as2 ceA2_42) = finR (stL2 w.params A U B U2 I (listO d2 vs2 n2 sl2) (.int (.ofNat t) tt) (c + 1) r k1 k2 k3 k4 (dval (tb2 w sc p pF p0 A B I (stL2 w.params A U B U2 I (listO d2 vs2 n2 sl2) fv c (r + 1) k1 k2 k3 k4 vt ve vc vd) ts as 42 t tt v0 ts2 as2 ceA2_42) 4) (dval (tb2 w sc p pF p0 A B I (stL2 w.params A U B U2 I (listO d2 vs2 n2 sl2) fv c (r + 1) k1 k2 k3 k4 vt ve vc vd) ts as 42 t tt v0 ts2 as2 ceA2_42) 5) (dval (tb2 w sc p pF p0 A B I (stL2 w.params A U B U2 I (listO d2 vs2 n2 sl2) fv c (r + 1) k1 k2 k3 k4 vt ve vc vd) ts as 42 t tt v0 ts2 as2 ceA2_42) 6) (dval (tb2 w sc p pF p0 A B I (stL2 w.params A U B U2 I (listO d2 vs2 n2 sl2) fv c (r + 1) k1 k2 k3 k4 vt ve vc vd) ts as 42 t tt v0 ts2 as2 ceA2_42) 7)) (KB2 w sc B) (.ok (.ret .none)) (tb2 w sc p pF p0 A B I (stL2 w.params A U B U2 I (listO d2 vs2 n2 sl2) fv c (r + 1) k1 k2 k3 k4 vt ve vc vd) ts as 42 t tt v0 ts2 as2 ceA2_42) ∧
    finL (stL2 w.params A U B U2 I (listO d2 vs2 n2 sl2) (.int (.ofNat t) tt) (c + 1) r k1 k2 k3 k4 (dval (tb2 w sc p pF p0 A B I (stL2 w.params A U B U2 I (listO d2 vs2 n2 sl2) fv c (r + 1) k1 k2 k3 k4 vt ve vc vd) ts as 43 t tt v0 ts2 as2 ceA2_43) 4) (dval (tb2 w sc p pF p0 A B I (stL2 w.params A U B U2 I (listO d2 vs2 n2 sl2) fv c (r + 1) k1 k2 k3 k4 vt ve vc vd) ts as 43 t tt v0 ts2 as2 ceA2_43) 5) (dval (tb2 w sc p pF p0 A B I (stL2 w.params A U B U2 I (listO d2 vs2 n2 sl2) fv c (r + 1) k1 k2 k3 k4 vt ve vc vd) ts as 43 t tt v0 ts2 as2 ceA2_43) 6) (dval (tb2 w sc p pF p0 A B I (stL2 w.params A U B U2 I (listO d2 vs2 n2 sl2) fv c (r + 1) k1 k2 k3 k4 vt ve vc vd) ts as 43 t tt v0 ts2 as2 ceA2_43) 7)) (tb2 w sc p pF p0 A B I (stL2 w.params A U B U2 I (listO d2 vs2 n2 sl2) fv c (r + 1) k1 k2 k3 k4 vt ve vc vd) ts as 43 t tt v0 ts2 as2 ceA2_43) = finR (stL2 w.params A U B U2 I (listO d2 vs2 n2 sl2) (.int (.ofNat t) tt) (c + 1) r k1 k2 k3 k4 (dval (tb2 w sc p pF p0 A B I (stL2 w.params A U B U2 I (listO d2 vs2 n2 sl2) fv c (r + 1) k1 k2 k3 k4 vt ve vc vd) ts as 43 t tt v0 ts2 as2 ceA2_43) 4) (dval (tb2 w sc p pF p0 A B I (stL2 w.params A U B U2 I (listO d2 vs2 n2 sl2) fv c (r + 1) k1 k2 k3 k4 vt ve vc vd) ts as 43 t tt v0 ts2 as2 ceA2_43) 5) (dval (tb2 w sc p pF p0 A B I (stL2 w.params A U B U2 I (listO d2 vs2 n2 sl2) fv c (r + 1) k1 k2 k3 k4 vt ve vc vd) ts as 43 t tt v0 ts2 as2 ceA2_43) 6) (dval (tb2 w sc p pF p0 A B I (stL2 w.params A U B U2 I (listO d2 vs2 n2 sl2) fv c (r + 1) k1 k2 k3 k4 vt ve vc vd) ts as 43 t tt v0 ts2 as2 ceA2_43) 7)) (KB2 w sc B) (.ok (.ret .none)) (tb2 w sc p pF p0 A B I (stL2 w.params A U B U2 I (listO d2 vs2 n2 sl2) fv c (r + 1) k1 k2 k3 k4 vt ve vc vd) ts as 43 t tt v0 ts2 as2 ceA2_43) ∧
    finL (stL2 w.params A U B U2 I (listO d2 vs2 n2 sl2) (.int (.ofNat t) tt) (c + 1) r k1 k2 k3 k4 (dval (tb2 w sc p pF p0 A B I (stL2 w.params A U B U2 I (listO d2 vs2 n2 sl2) fv c (r + 1) k1 k2 k3 k4 vt ve vc vd) ts as 44 t tt v0 ts2 as2 ceA2_44) 4) (dval (tb2 w sc p pF p0 A B I (stL2 w.params A U B U2 I (listO d2 vs2 n2 sl2) fv c (r + 1) k1 k2 k3 k4 vt ve vc vd) ts as 44 t tt v0 ts2 as2 ceA2_44) 5) (dval (tb2 w sc p pF p0 A B I (stL2 w.params A U B U2 I (listO d2 vs2 n2 sl2) fv c (r + 1) k1 k2 k3 k4 vt ve vc vd) ts as 44 t tt v0 ts2 as2 ceA2_44) 6) (dval (tb2 w sc p pF p0 A B I (stL2 w.params A U B U2 I (listO d2 vs2 n2 sl2) fv c (r + 1) k1 k2 k3 k4 vt ve vc vd) ts as 44 t tt v0 ts2 as2 ceA2_44) 7)) (tb2 w sc p pF p0 A B I (stL2 w.params A U B U2 I (listO d2 vs2 n2 sl2) fv c (r + 1) k1 k2 k3 k4 vt ve vc vd) ts as 44 t tt v0 ts2 as2 ceA2_44) = finR (stL2 w.params A U B U2 I (listO d2 vs2 n2 sl2) (.int (.ofNat t) tt) (c + 1) r k1 k2 k3 k4 (dval (tb2 w sc p pF p0 A B I (stL2 w.params A U B U2 I (listO d2 vs2 n2 sl2) fv c (r + 1) k1 k2 k3 k4 vt ve vc vd) ts as 44 t tt v0 ts2 as2 ceA2_44) 4) (dval (tb2 w sc p pF p0 A B I (stL2 w.params A U B U2 I (listO d2 vs2 n2 sl2) fv c (r + 1) k1 k2 k3 k4 vt ve vc vd) ts as 44 t tt v0 ts2 as2 ceA2_44) 5) (dval (tb2 w sc p pF p0 A B I (stL2 w.params A U B U2 I (listO d2 vs2 n2 sl2) fv c (r + 1) k1 k2 k3 k4 vt ve vc vd) ts as 44 t tt v0 ts2 as2 ceA2_44) 6) (dval (tb2 w sc p pF p0 A B I (stL2 w.params A U B U2 I (listO d2 vs2 n2 sl2) fv c (r + 1) k1 k2 k3 k4 vt ve vc vd) ts as 44 t tt v0 ts2 as2 ceA2_44) 7)) (KB2 w sc B) (.ok (.ret .none)) (tb2 w sc p pF p0 A B I (stL2 w.params A U B U2 I (listO d2 vs2 n2 sl2) fv c (r + 1) k1 k2 k3 k4 vt ve vc vd) ts as 44 t tt v0 ts2 as2 ceA2_44) ∧
    finL (stL2 w.params A U B U2 I (listO d2 vs2 n2 sl2) (.int (.ofNat t) tt) (c + 1) r k1 k2 k3 k4 (dval (tb2 w sc p pF p0 A B I (stL2 w.params A U B U2 I (listO d2 vs2 n2 sl2) fv c (r + 1) k1 k2 k3 k4 vt ve vc vd) ts as 45 t tt v0 ts2 as2 ceA2_45) 4) (dval (tb2 w sc p pF p0 A B I (stL2 w.params A U B U2 I (listO d2 vs2 n2 sl2) fv c (r + 1) k1 k2 k3 k4 vt ve vc vd) ts as 45 t tt v0 ts2 as2 ceA2_45) 5) (dval (tb2 w sc p pF p0 A B I (stL2 w.params A U B U2 I (listO d2 vs2 n2 sl2) fv c (r + 1) k1 k2 k3 k4 vt ve vc vd) ts as 45 t tt v0 ts2 as2 ceA2_45) 6) (dval (tb2 w sc p pF p0 A B I (stL2 w.params A U B U2 I (listO d2 vs2 n2 sl2) fv c (r + 1) k1 k2 k3 k4 vt ve vc vd) ts as 45 t tt v0 ts2 as2 ceA2_45) 7)) (tb2 w sc p pF p0 A B I (stL2 w.params A U B U2 I (listO d2 vs2 n2 sl2) fv c (r + 1) k1 k2 k3 k4 vt ve vc vd) ts as 45 t tt v0 ts2 as2 ceA2_45) = finR (stL2 w.params A U B U2 I (listO d2 vs2 n2 sl2) (.int (.ofNat t) tt) (c + 1) r k1 k2 k3 k4 (dval (tb2 w sc p pF p0 A B I (stL2 w.params A U B U2 I (listO d2 vs2 n2 sl2) fv c (r + 1) k1 k2 k3 k4 vt ve vc vd) ts as 45 t tt v0 ts2 as2 ceA2_45) 4) (dval (tb2 w sc p pF p0 A B I (stL2 w.params A U B U2 I (listO d2 vs2 n2 sl2) fv c (r + 1) k1 k2 k3 k4 vt ve vc vd) ts as 45 t tt v0 ts2 as2 ceA2_45) 5) (dval (tb2 w sc p pF p0 A B I (stL2 w.params A U B U2 I (listO d2 vs2 n2 sl2) fv c (r + 1) k1 k2 k3 k4 vt ve vc vd) ts as 45 t tt v0 ts2 as2 ceA2_45) 6) (dval (tb2 w sc p pF p0 A B I (stL2 w.params A U B U2 I (listO d2 vs2 n2 sl2) fv c (r + 1) k1 k2 k3 k4 vt ve vc vd) ts as 45 t tt v0 ts2 as2 ceA2_45) 7)) (KB2 w sc B) (.ok (.ret .none)) (tb2 w sc p pF p0 A B I (stL2 w.params A U B U2 I (listO d2 vs2 n2 sl2) fv c (r + 1) k1 k2 k3 k4 vt ve vc vd) ts as 45 t tt v0 ts2 as2 ceA2_45) :=
  ⟨by kernel_rfl, by kernel_rfl, by kernel_rfl, by kernel_rfl, by kernel_rfl, by kernel_rfl, by kernel_rfl, by kernel_rfl, by kernel_rfl, by kernel_rfl, by kernel_rfl⟩

end Mine
end
section
open PySem PySem.W PySem.W.X
open Sem (wp)
set_option maxRecDepth 1000000
namespace Mine
noncomputable def ceTB : List Nat := [0,1,0,0,0,0,4002,4002,0,0,0,0,4002,7,0,0,0,0,7,0,0,0,7,7,0,6,0,0,0,9,4003,16,16,16,16,0,16,0,16,16,16,4004,16,16,16,4003,4003,4003,4003,4003,4003,0,4004,0,4004,0,4004,4004,16,16,4004,4004,4004,4004,4004,4003,4003,4003,0,4004,0,4004,0,4004,4004,16,16,4004,4004,4004,4004,4004,4003,4003,4003,0,4004,0,4004,0,4004,4004,16,16,4004,4004,4004,4004,4004,4003,4003,4003,0,4004,0,4004,0,4004,4004,16,16,4004,4004,4004,4006,4003,0,4007,0,4007,4007,4007,4007,4007,0,0,0,0,4007,4007,4007,4007,4007,4007,0,4007,0,4010,4,12,4010,0,4010,0,4010,0,4010,4010,4007,4010,4010,4012,4012,4012,0,0,4002,7,0,0,0,0,7,0,0,0,7,7,0,6,4012,16,16,16,0,16,4,16,0,34,34,34,34,0,34,0,34,0,0,0,9,4014,4013,4013,4013,4013,0,4013,0,4013,34,34,4015,4013,4013,4013,4014,4014,4014,4014,4014,4014,0,4015,0,4015,0,4015,4015,34,34,4015,4015,4015,4015,4015,4015,4015,4015,4015,4015,4015,4015,4015,4015,4015,4015,4015,4014,4014,4014,0,4015,0,4015,0,4015,4015,34,34,4015,4015,4015,4015,4015,4015,4015,4016,4015,4015,4015,4014,4014,4014,0,4015,0,4015,0,4015,4015,34,34,4015,4015,4015,4015,4015,4015,4015,4016,4015,4014,4014,4014,0,4015,0,4015,0,4015,4015,34,34,4015,4015,4015,4015,4015,4015,4015,4016,4015,4014,4014,4014,0,4015,0,4015,0,4015,4015,34,34,4015,4015,4015,4015,4015,4015,4015,4016,4015,4014,4014,4014,0,4015,0,4015,0,4015,4015,34,34,4015,4015,4015,4015,4015,4015,4015,4016,4015,4014,4014,4014,0,4015,0,4015,0,4015,4015,34,34,4015,4015,4015,4023,4014,0,4024,0,4024,4024,4024,4024,4024,4016,4016,4017,4017,4018,4018,4019,4019,4020,4020,4021,4021,4017,4016,0,0,0,0,4018,4017,0,0,0,0,4016,4017,0,0,0,0,4018,4017,0,0,0,0,4018,4016,0,0,0,0,4019,4016,0,0,0,0,4019,4017,0,0,0,0,4020,4017,0,0,0,0,4020,4016,0,0,0,0,4020,4018,0,0,0,0,4021,4016,0,0,0,0,4021,4019,0,0,0,0,4021,4017,0,0,0,0,4024,4024,4024,4024,0,4011,0,4011,4011,4011,0,4010,0,4010,0,4010,4010,4007,4010,4010,4012,4012,4012,0,0,4002,7,0,0,0,0,7,0,0,0,7,7,0,6,4012,16,16,16,0,16,4,16,0,47,47,47,47,0,47,0,47,0,0,0,9,4029,4028,4028,4028,4028,0,4028,0,4028,47,47,4030,4028,4028,4028,4029,4029,4029,4029,4029,4029,0,4030,0,4030,0,4030,4030,47,47,4030,4030,4030,4030,4030,4030,4030,4030,4030,4030,4030,4030,4030,4030,4030,4030,4030,4029,4029,4029,0,4030,0,4030,0,4030,4030,47,47,4030,4030,4030,4030,4030,4030,4030,4031,4030,4030,4030,4029,4029,4029,0,4030,0,4030,0,4030,4030,47,47,4030,4030,4030,4030,4030,4030,4030,4031,4030,4029,4029,4029,0,4030,0,4030,0,4030,4030,47,47,4030,4030,4030,4030,4030,4030,4030,4031,4030,4029,4029,4029,0,4030,0,4030,0,4030,4030,47,47,4030,4030,4030,4030,4030,4030,4030,4031,4030,4029,4029,4029,0,4030,0,4030,0,4030,4030,47,47,4030,4030,4030,4030,4030,4030,4030,4031,4030,4029,4029,4029,0,4030,0,4030,0,4030,4030,47,47,4030,4030,4030,4038,4029,0,4039,0,4039,4039,4039,4039,4039,4031,4031,4032,4032,4033,4033,4034,4034,4035,4035,4036,4036,4032,4031,0,0,0,0,4033,4032,0,0,0,0,4031,4032,0,0,0,0,4033,4032,0,0,0,0,4033,4031,0,0,0,0,4034,4031,0,0,0,0,4034,4032,0,0,0,0,4035,4032,0,0,0,0,4035,4031,0,0,0,0,4035,4033,0,0,0,0,4036,4031,0,0,0,0,4036,4034,0,0,0,0,4036,4032,0,0,0,0,4039,4039,4039,4039,0,4011,0,4011,4011,4011,0,4010,0,4010,0,4010,4010,4007,4010,4010,4012,4012,4012,0,0,4002,7,0,0,0,0,7,0,0,0,7,7,0,6,4012,16,16,16,0,16,4,16,0,60,60,60,60,0,60,0,60,0,0,0,9,4044,4043,4043,4043,4043,0,4043,0,4043,60,60,4045,4043,4043,4043,4044,4044,4044,4044,4044,4044,0,4045,0,4045,0,4045,4045,60,60,4045,4045,4045,4045,4045,4045,4045,4045,4045,4045,4045,4045,4045,4045,4045,4045,4045,4044,4044,4044,0,4045,0,4045,0,4045,4045,60,60,4045,4045,4045,4045,4045,4045,4045,4046,4045,4045,4045,4044,4044,4044,0,4045,0,4045,0,4045,4045,60,60,4045,4045,4045,4045,4045,4045,4045,4046,4045,4044,4044,4044,0,4045,0,4045,0,4045,4045,60,60,4045,4045,4045,4045,4045,4045,4045,4046,4045,4044,4044,4044,0,4045,0,4045,0,4045,4045,60,60,4045,4045,4045,4045,4045,4045,4045,4046,4045,4044,4044,4044,0,4045,0,4045,0,4045,4045,60,60,4045,4045,4045,4045,4045,4045,4045,4046,4045,4044,4044,4044,0,4045,0,4045,0,4045,4045,60,60,4045,4045,4045,4053,4044,0,4054,0,4054,4054,4054,4054,4054,4046,4046,4047,4047,4048,4048,4049,4049,4050,4050,4051,4051,4047,4046,0,0,0,0,4048,4047,0,0,0,0,4046,4047,0,0,0,0,4048,4047,0,0,0,0,4048,4046,0,0,0,0,4049,4046,0,0,0,0,4049,4047,0,0,0,0,4050,4047,0,0,0,0,4050,4046,0,0,0,0,4050,4048,0,0,0,0,4051,4046,0,0,0,0,4051,4049,0,0,0,0,4051,4047,0,0,0,0,4054,4054,4054,4054,0,4011,0,4011,4011,4011,0,4010,0,4010,0,4010,4010,4007,4010,4010,4059,4001,4001,4012,4012,4012,0,0,4002,7,0,0,0,0,7,0,0,0,7,7,0,6,21,21,21,21,0,21,0,21,0,0,0,9,4061,4060,4060,4060,4060,0,4060,0,4060,21,21,4062,4060,4060,4060,4061,4061,4061,4061,4061,4061,0,4062,0,4062,0,4062,4062,21,21,4062,4062,4062,4062,4062,4062,4062,4062,4062,4062,4062,4062,4062,4062,4062,4062,4062,4061,4061,4061,0,4062,0,4062,0,4062,4062,21,21,4062,4062,4062,4062,4062,4062,4062,4063,4062,4062,4062,4061,4061,4061,0,4062,0,4062,0,4062,4062,21,21,4062,4062,4062,4062,4062,4062,4062,4063,4062,4061,4061,4061,0,4062,0,4062,0,4062,4062,21,21,4062,4062,4062,4062,4062,4062,4062,4063,4062,4061,4061,4061,0,4062,0,4062,0,4062,4062,21,21,4062,4062,4062,4068,4061,0,4069,0,4069,4069,4069,4069,4069,4063,4063,4064,4064,4065,4065,4066,4066,4064,4063,0,0,0,0,4065,4064,0,0,0,0,4066,4065,0,0,0,0,4063,4065,0,0,0,0,4066,4064,0,0,0,0,4066,4063,0,0,0,0,4069,4069,4069,4069,4001,0,0,4002,7,0,0,0,0,7,0,0,0,7,7,0,6,17,17,17,17,0,17,0,17,0,0,0,9,4073,4072,4072,4072,4072,0,4072,0,4072,17,17,4074,4072,4072,4072,4073,4073,4073,4073,4073,4073,0,4074,0,4074,0,4074,4074,17,17,4074,4074,4074,4074,4074,4074,4074,4074,4074,4074,4074,4074,4074,4074,4074,4074,4074,4073,4073,4073,0,4074,0,4074,0,4074,4074,17,17,4074,4074,4074,4074,4074,4074,4074,4075,4074,4074,4074,4073,4073,4073,0,4074,0,4074,0,4074,4074,17,17,4074,4074,4074,4078,4073,0,4079,0,4079,4079,4079,4079,4079,4075,4075,4076,4076,4076,4075,0,0,0,0,4079,4079,4079,4079,1,4082,218,4082,0,4082,10,4082,4069,4063,4066,4064,4065,4011,4027,4024,4018,4020,4016,4017,4021,4019,4042,4039,4033,4035,4031,4032,4036,4034,4057,4054,4048,4050,4046,4047,4051,4049,4079,4075,98,4076,102,218,205,199,202,200,201,147,163,160,154,156,152,153,157,155,178,175,169,171,167,168,172,170,193,190,184,186,182,183,187,185,215,211,98,212,102]
noncomputable def tb (w : World) (sc : Obj) (p pF p0 : Pos) (A B : Nat → Nat) (I : Nat) (l : List Ent) (ts as : Nat → Nat) : Out := lawEv w 30000 (trB A I) [] (gF p pF A I) p0 [] (KB2 w sc B) (mkT l) 4000 ts as ceTB []
set_option maxHeartbeats 0 in
theorem tb_eq (w : World) (sc : Obj) (d2 : Option Addr) (vs2 : Array Value) (n2 : Nat) (sl2 : Array (Option Value)) (p pF p0 : Pos) (A U B U2 : Nat → Nat) (I : Nat) (fv : Value) (c r k1 k2 k3 k4 : Nat) (vt ve vc vd : Value) (ts as : Nat → Nat) : agnL (stL2 w.params A U B U2 I (listO d2 vs2 n2 sl2) fv c r k1 k2 k3 k4 vt ve vc vd) (tb w sc p pF p0 A B I (stL2 w.params A U B U2 I (listO d2 vs2 n2 sl2) fv c r k1 k2 k3 k4 vt ve vc vd) ts as) = agnR (stL2 w.params A U B U2 I (listO d2 vs2 n2 sl2) fv c r k1 k2 k3 k4 vt ve vc vd) (cdFor A I) (gF p pF A I) (KB2 w sc B) (tb w sc p pF p0 A B I (stL2 w.params A U B U2 I (listO d2 vs2 n2 sl2) fv c r k1 k2 k3 k4 vt ve vc vd) ts as) := by
  kernel_rfl
noncomputable def ceTE : List Nat := [220,0,220,0,220,220,220,3002]
noncomputable def te (w : World) (sc : Obj) (p pF p0 : Pos) (A B : Nat → Nat) (I : Nat) (l : List Ent) (ts as : Nat → Nat) : Out := lawEv w 30000 (D1.den (cdFor A I)) [] (gF p pF A I) p0 [] (KB2 w sc B) (mkT l) 3000 ts as ceTE []
set_option maxHeartbeats 0 in
theorem te_eq (w : World) (sc : Obj) (d2 : Option Addr) (vs2 : Array Value) (n2 : Nat) (sl2 : Array (Option Value)) (p pF p0 : Pos) (A U B U2 : Nat → Nat) (I : Nat) (fv : Value) (c k1 k2 k3 k4 : Nat) (vt ve vc vd : Value) (ts as : Nat → Nat) : agnL (stL2 w.params A U B U2 I (listO d2 vs2 n2 sl2) fv c 0 k1 k2 k3 k4 vt ve vc vd) (te w sc p pF p0 A B I (stL2 w.params A U B U2 I (listO d2 vs2 n2 sl2) fv c 0 k1 k2 k3 k4 vt ve vc vd) ts as) = agnR (stL2 w.params A U B U2 I (listO d2 vs2 n2 sl2) fv c 0 k1 k2 k3 k4 vt ve vc vd) (.block [] (lawEnv A)) (gF p pF A I) (KB2 w sc B) (te w sc p pF p0 A B I (stL2 w.params A U B U2 I (listO d2 vs2 n2 sl2) fv c 0 k1 k2 k3 k4 vt ve vc vd) ts as) := by
  kernel_rfl
noncomputable def ceS4 : List Nat := [0,1,0,0,0,0,6001,6001,6001,6001,0,0,0,6001,6001,0,0,0,0,6002,6002,6002,6002,0,0,0,6002,6002,0,0,0,0,6004,6004,6004,6004,6004,6004,0,0,6004,6004,7,0,0,0,0,7,0,0,0,7,7,0,6,16,16,0,16,5,16,6004,7,0,0,0,0,7,0,0,0,7,7,0,6,6004,16,16,16,0,16,4,16,0,6004,6004,6004,34,34,34,0,34,1,34,6004,6003,6003,0,6003,8,6003,6004,6002,6002,6002,7,0,0,0,0,7,0,0,0,7,7,0,6,6002,34,34,34,0,34,1,34,21,21,21,0,21,1,21,0,6002,34,34,34,0,34,1,34,0,0,6005,6005,6005,6005,6001,6001,6001,0,0,6001,0,0,0,6001,6001,6001,0,0,6001,6001,0,0,6006,6006,6006,6006,6001,6001,0,6001,6001,0,0,6001,0,0,0,0,0,0,0,0,0,0,6007,6007,6007,6007,6007,6007,0,0,0,6007,6007,0,0,0,0,6009,6009,6009,6009,6009,6009,0,0,6009,6009,7,0,0,0,0,7,0,0,0,7,7,0,6,16,16,0,16,5,16,6009,7,0,0,0,0,7,0,0,0,7,7,0,6,6009,16,16,16,0,16,4,16,0,6009,6009,6009,34,34,34,0,34,1,34,6009,6008,6008,0,6008,8,6008,6009,6007,6007,0,0,6007,34,34,34,0,34,1,34,6007,0,0,0,0,6007,7,0,0,0,0,7,0,0,0,7,7,0,6,6007,34,34,34,0,34,1,34,21,21,21,0,21,1,21,0,0,0,0,0,0,0,6010,6010,0,6010,0,6011,0,6012,6011,0,6011,0,6011,6011,6010,6011,6011,6012,6012,6012,0,6012,6011,0,6011,0,6011,6011,6010,6011,6011,0,0,0,6012,6011,0,6011,0,6011,6011,6010,6011,6011,6014,6012,6012,6012,6007,34,34,0,34,3,34,34,6001,0,1,0,0,0,0,6015,6015,6015,6015,6015,6015,0,0,0,6015,6015,0,0,0,0,6016,6016,6016,6016,0,0,0,6016,6016,0,0,0,0,6018,6018,6018,6018,6018,6018,0,0,6018,6018,7,0,0,0,0,7,0,0,0,7,7,0,6,16,16,0,16,5,16,6018,7,0,0,0,0,7,0,0,0,7,7,0,6,6018,16,16,16,0,16,4,16,0,6018,6018,6018,34,34,34,0,34,1,34,6018,6017,6017,0,6017,8,6017,6018,6016,6016,6016,7,0,0,0,0,7,0,0,0,7,7,0,6,6016,34,34,34,0,34,1,34,21,21,21,0,21,1,21,0,6016,34,34,34,0,34,1,34,0,0,6019,6019,6019,6019,6015,6015,6015,0,0,6015,0,0,0,0,0,0,0,6015,6015,6015,0,0,0,0,6020,6020,6020,6020,6020,6020,0,0,0,6020,6020,0,0,0,0,6022,6022,6022,6022,6022,6022,0,0,6022,6022,7,0,0,0,0,7,0,0,0,7,7,0,6,16,16,0,16,5,16,6022,7,0,0,0,0,7,0,0,0,7,7,0,6,6022,16,16,16,0,16,4,16,0,6022,6022,6022,34,34,34,0,34,1,34,6022,6021,6021,0,6021,8,6021,6022,6020,6020,0,0,6020,34,34,34,0,34,1,34,6020,0,0,0,0,6020,7,0,0,0,0,7,0,0,0,7,7,0,6,6020,34,34,34,0,34,1,34,21,21,21,0,21,1,21,0,0,0,0,0,0,0,6023,6023,0,6023,0,6024,0,6025,6024,0,6024,0,6024,6024,6023,6024,6024,6025,6025,6025,0,6025,6024,0,6024,0,6024,6024,6023,6024,6024,0,0,0,6025,6024,0,6024,0,6024,6024,6023,6024,6024,6027,6025,6025,6025,6020,34,34,0,34,3,34,34,6015,6015,0,0,6028,6028,6028,6028,0,1,0,0,0,0,6029,6029,6029,6029,0,0,0,6029,6029,0,0,0,0,6031,6031,6031,6031,6031,6031,0,0,6031,6031,7,0,0,0,0,7,0,0,0,7,7,0,6,16,16,0,16,5,16,6031,7,0,0,0,0,7,0,0,0,7,7,0,6,6031,16,16,16,0,16,4,16,0,6031,6031,6031,34,34,34,0,34,1,34,6031,6030,6030,0,6030,8,6030,6031,6029,6029,6029,7,0,0,0,0,7,0,0,0,7,7,0,6,6029,34,34,34,0,34,1,34,21,21,21,0,21,1,21,0,6029,6029,6029,34,34,34,0,34,1,34,0,0,6029,34,34,34,0,34,1,34,0,0,6029,0,0,0,0,0,0,0,1,0,0,0,0,6032,6032,6032,6032,0,0,0,6032,6032,0,0,0,0,6034,6034,6034,6034,6034,6034,0,0,6034,6034,7,0,0,0,0,7,0,0,0,7,7,0,6,16,16,0,16,5,16,6034,7,0,0,0,0,7,0,0,0,7,7,0,6,6034,16,16,16,0,16,4,16,0,6034,6034,6034,34,34,34,0,34,1,34,6034,6033,6033,0,6033,8,6033,6034,6032,6032,6032,34,34,34,0,34,1,34,0,0,6032,34,34,34,0,34,1,34,1,1,0,1,0,0,0,0,6036,6036,6036,6036,6036,6036,0,0,0,6036,6036,6036,0,0,0,0,0,0,0,6037,6037,6037,6037,6037,6037,0,0,0,6037,6037,0,0,0,0,6039,6039,6039,6039,6039,6039,0,0,6039,6039,7,0,0,0,0,7,0,0,0,7,7,0,6,16,16,0,16,5,16,6039,7,0,0,0,0,7,0,0,0,7,7,0,6,6039,16,16,16,0,16,4,16,0,6039,6039,6039,47,47,47,0,47,1,47,6039,6038,6038,0,6038,8,6038,6039,6037,6037,6037,7,0,0,0,0,7,0,0,0,7,7,0,6,6037,47,47,47,0,47,1,47,21,21,21,0,21,1,21,0,6037,0,0,6037,7,0,0,0,0,7,0,0,0,7,7,0,6,6037,47,47,47,0,47,1,47,21,21,0,21,3,21,21,6037,47,47,47,0,47,1,47,0,0,6037,0,0,0,0,0,0,6037,47,47,0,47,3,47,47,0,1,0,0,0,0,6040,6040,6040,6040,6040,6040,6040,6040,0,0,6040,7,0,0,0,0,7,0,0,0,7,7,0,6,6040,17,17,17,0,17,1,17,0,102,102,102,0,102,0,6041,6041,0,6041,0,6041,6041,102,6041,6041,6041,0,6041,0,6041,6041,102,6041,6041,6041,0,6041,0,6041,6041,102,6041,6041,6041,0,6041,0,6041,6041,102,6041,6041,6043,6040,6040,6040,6040,6040,6040,6040,7,0,0,0,0,7,0,0,0,7,7,0,6,6040,16,16,16,0,16,4,16,0,6040,6040,6040,60,60,60,0,60,1,60,6040,0,0,6044,6044,6044,6044,0,6040,6040,6040,0,0,0,0,6045,6045,6045,6045,6045,6045,0,0,6045,6045,0,0,6046,6046,6046,6046,6045,6045,6045,0,0,6045,0,0,0,0,0,0,0,0,0,0,6045,6045,6045,6045,6045,0,0,0,0,6040,60,60,60,0,60,1,60,6040,6040,0,0,0,0,6047,6047,6047,6047,0,0,6040,60,60,0,60,3,60,60,0,1,0,0,0,0,6048,6048,6048,6048,6048,6048,6048,6048,0,0,0,6048,6048,0,0,0,0,6050,6050,6050,6050,6050,6050,0,0,6050,6050,7,0,0,0,0,7,0,0,0,7,7,0,6,16,16,0,16,5,16,6050,7,0,0,0,0,7,0,0,0,7,7,0,6,6050,16,16,16,0,16,4,16,0,6050,6050,6050,60,60,60,0,60,1,60,6050,6049,6049,0,6049,8,6049,6050,6048,6048,0,6048,6048,0,0,0,0,6051,6051,6051,6051,0,0,6051,6051,60,60,60,0,60,1,60,0,0,6051,6051,6051,0,0,0,0,6051,6048,60,60,60,0,60,1,60,6048,7,0,0,0,0,7,0,0,0,7,7,0,6,6048,60,60,60,0,60,1,60,21,21,21,0,21,1,21,0,6052,6052,6052,0,6052,0,6053,6053,0,6053,0,6053,6053,6052,6053,6053,6053,0,6053,0,6053,6053,6052,6053,6053,6053,0,6053,0,6053,6053,6052,6053,6053,6053,0,6053,0,6053,6053,6052,6053,6053,6055,6048,6048,6048,6048,6048,6048,6048,0,0,6048,0,0,6048,6048,6048,6048,0,0,6048,0,0,6048,0,0,0,0,6048,0,0,6048,0,0,0,0,0,0,0,0,0,0,0,0,6048,6048,6048,6048,0,0,6056,6056,6056,6056,6048,60,60,60,0,60,1,60,0,0,6048,6048,6048,0,0,0,0,6057,6057,6057,6057,0,0,6048,7,0,0,0,0,7,0,0,0,7,7,0,6,6048,60,60,60,0,60,1,60,21,21,0,21,3,21,21,6048,6048,60,60,0,60,3,60,60,0,1,0,0,0,0,6058,6058,0,0,0,0,6058,7,0,0,0,0,7,0,0,0,7,7,0,6,0,0,0,9,6059,16,16,16,16,0,16,0,16,16,16,6060,16,16,16,6059,6059,6059,6059,6059,6059,0,6060,0,6060,0,6060,6060,16,16,6060,6060,6060,6060,6060,6059,6059,6059,0,6060,0,6060,0,6060,6060,16,16,6060,6060,6060,6060,6060,6059,6059,6059,0,6060,0,6060,0,6060,6060,16,16,6060,6060,6060,6060,6060,6059,6059,6059,0,6060,0,6060,0,6060,6060,16,16,6060,6060,6060,6062,6059,0,6063,0,6063,6063,6063,6063,6063,0,0,0,0,6063,6063,6063,6063,6063,6063,0,6063,0,6066,0,6066,0,6066,0,6066,6066,6063,6066,6066,6058,6058,0,6058,6058,0,0,0,0,6067,6067,6067,6067,0,0,6067,6067,7,0,0,0,0,7,0,0,0,7,7,0,6,16,16,0,16,5,16,6067,7,0,0,0,0,7,0,0,0,7,7,0,6,16,16,16,16,6067,0,16,7,16,16,0,0,0,6067,7,0,0,0,0,7,0,0,0,7,7,0,6,0,0,0,9,6068,17,17,17,17,0,17,0,17,17,17,6069,17,17,17,6068,6068,6068,6068,6068,6068,0,6069,0,6069,0,6069,6069,17,17,6069,6069,6069,6069,6069,6068,6068,6068,0,6069,0,6069,0,6069,6069,17,17,6069,6069,6069,6069,6069,6068,6068,6068,0,6069,0,6069,0,6069,6069,17,17,6069,6069,6069,6071,6068,0,6072,0,6072,6072,6072,6072,6072,0,0,6072,6072,6072,6072,6072,6072,0,6072,0,6075,0,6075,0,6075,0,6075,6075,6072,6075,6075,6067,6067,6067,7,0,0,0,0,7,0,0,0,7,7,0,6,6067,17,17,17,0,17,1,17,0,98,98,98,0,98,0,98,0,6067,0,0,0,6075,0,6075,0,6075,6075,6072,6075,6075,6067,6067,6067,7,0,0,0,0,7,0,0,0,7,7,0,6,6067,17,17,17,0,17,1,17,0,102,102,102,0,102,0,102,0,6067,0,0,0,6075,0,6075,0,6075,6075,6072,6075,6075,6077,0,0,6066,0,6066,0,6066,6066,6063,6066,6066,6058,6058,0,6058,6058,0,0,0,0,6078,6078,6078,6078,0,0,6078,6078,7,0,0,0,0,7,0,0,0,7,7,0,6,16,16,0,16,5,16,6078,7,0,0,0,0,7,0,0,0,7,7,0,6,16,16,16,16,6078,0,16,7,16,16,0,0,0,6078,7,0,0,0,0,7,0,0,0,7,7,0,6,0,0,0,9,6079,17,17,17,17,0,17,0,17,17,17,6080,17,17,17,6079,6079,6079,6079,6079,6079,0,6080,0,6080,0,6080,6080,17,17,6080,6080,6080,6080,6080,6079,6079,6079,0,6080,0,6080,0,6080,6080,17,17,6080,6080,6080,6080,6080,6079,6079,6079,0,6080,0,6080,0,6080,6080,17,17,6080,6080,6080,6082,6079,0,6083,0,6083,6083,6083,6083,6083,0,0,6083,6083,6083,6083,6083,6083,0,6083,0,6086,0,6086,0,6086,0,6086,6086,6083,6086,6086,6078,6078,6078,7,0,0,0,0,7,0,0,0,7,7,0,6,6078,17,17,17,0,17,1,17,0,98,98,98,0,98,0,98,0,6078,0,0,0,6086,0,6086,0,6086,6086,6083,6086,6086,6078,6078,6078,7,0,0,0,0,7,0,0,0,7,7,0,6,6078,17,17,17,0,17,1,17,0,102,102,102,0,102,0,102,0,6078,0,0,0,6086,0,6086,0,6086,6086,6083,6086,6086,6088,0,0,6066,0,6066,0,6066,6066,6063,6066,6066,6058,6058,0,6058,6058,0,0,0,0,6089,6089,6089,6089,0,0,6089,6089,7,0,0,0,0,7,0,0,0,7,7,0,6,16,16,0,16,5,16,6089,7,0,0,0,0,7,0,0,0,7,7,0,6,16,16,16,16,6089,0,16,7,16,16,0,0,0,6089,7,0,0,0,0,7,0,0,0,7,7,0,6,0,0,0,9,6090,17,17,17,17,0,17,0,17,17,17,6091,17,17,17,6090,6090,6090,6090,6090,6090,0,6091,0,6091,0,6091,6091,17,17,6091,6091,6091,6091,6091,6090,6090,6090,0,6091,0,6091,0,6091,6091,17,17,6091,6091,6091,6091,6091,6090,6090,6090,0,6091,0,6091,0,6091,6091,17,17,6091,6091,6091,6093,6090,0,6094,0,6094,6094,6094,6094,6094,0,0,6094,6094,6094,6094,6094,6094,0,6094,0,6097,0,6097,0,6097,0,6097,6097,6094,6097,6097,6089,6089,6089,7,0,0,0,0,7,0,0,0,7,7,0,6,6089,17,17,17,0,17,1,17,0,98,98,98,0,98,0,98,0,6089,0,0,6089,7,0,0,0,0,7,0,0,0,7,7,0,6,17,17,17,17,6089,0,17,6,17,17,0,0,6097,0,6097,0,6097,6097,6094,6097,6097,6089,6089,6089,7,0,0,0,0,7,0,0,0,7,7,0,6,6089,17,17,17,0,17,1,17,0,102,102,102,0,102,0,102,0,6089,0,0,6089,7,0,0,0,0,7,0,0,0,7,7,0,6,17,17,17,17,6089,0,17,6,17,17,0,0,6097,0,6097,0,6097,6097,6094,6097,6097,6099,0,0,6066,0,6066,0,6066,6066,6063,6066,6066,6101,0,1,6035,6102,6035,0,6035,11,6035,6102,1,7,0,0,0,0,7,0,0,0,7,7,0,6,16,6103,16,0,16,0,6103,16,6103,16,1,7,0,0,0,0,7,0,0,0,7,7,0,6,17,6104,17,0,17,0,6104,17,6104,17,1,7,0,0,0,0,7,0,0,0,7,7,0,6,0,0,6105,6105,6105,6105,0,0,6105,6105,6105,6105,0,0,6105,6105,6105,6105,0,0,6105,6105,6105,6105,21,6105,21,0,21,12,21,6105]
noncomputable def s4T (A : Nat → Nat) : Sem Fin := do
  let f ← D1.ex (lawBody.drop 3) (lawEnv A)
  match f with
  | .ret v => ret v
  | _ => unsupported "s4"
noncomputable def s4 (w : World) (sc : Obj) (p p0 : Pos) (A B : Nat → Nat) (l : List Ent) (ts as : Nat → Nat) : Out := lawEv w 30000 (s4T A) [] (gL p A) p0 [] (KB2 w sc B) (mkT l) 6000 ts as ceS4 []
set_option maxHeartbeats 0 in
theorem s4_eq (w : World) (sc : Obj) (d2 : Option Addr) (vs2 : Array Value) (n2 : Nat) (sl2 : Array (Option Value)) (p p0 : Pos) (A U B U2 : Nat → Nat) (I : Nat) (fv : Value) (c k1 k2 k3 k4 : Nat) (vt ve vc vd : Value) (ts as : Nat → Nat) : finL [] (s4 w sc p p0 A B (stL2 w.params A U B U2 I (listO d2 vs2 n2 sl2) fv c 0 k1 k2 k3 k4 vt ve vc vd) ts as) = finR [] (KB2 w sc B) (.ok (.ret (.bool true))) (s4 w sc p p0 A B (stL2 w.params A U B U2 I (listO d2 vs2 n2 sl2) fv c 0 k1 k2 k3 k4 vt ve vc vd) ts as) := by
  kernel_rfl

end Mine
end
section
open PySem PySem.W PySem.W.X
open Sem (wp)
set_option maxRecDepth 1000000
namespace Mine
noncomputable def ceNP : List Nat := [0,0,0,301,301,301,301,0,0,301,4,4,4,0,4,0,302,302,0,302,0,302,302,4,302,302,302,0,302,0,302,302,4,302,302,302,0,302,0,302,302,4,302,302,304,301,301,301,301,301,0,0,301,4,4,0,4,0,4,4,4,301,0,0,301,0,25,0,21,0,0,301,301,3,3,3,0,3,22,0,0,0,23,301,0,24]
noncomputable def ceNB : List Nat := [0,0,0,301,301,301,301,0,0,301,4,4,4,0,4,0,302,302,0,302,0,302,302,4,302,302,302,0,302,0,302,302,4,302,302,302,0,302,0,302,302,4,302,302,304,301,301,301,301,301,0,0,301,4,4,0,4,0,4,4,4,301,0,0,301,0,23,0,21,0,0,301,0,23,0,0,301,0,0,0,0,301,0,0,0,0,301,0,22]
noncomputable def leafT (r : Result) : Sem Fin := match r with
  | .ok f => .pure (.done f)
  | .error e => .raise e
noncomputable def callT (c : Code) : Sem Fin := .call c none false [] leafT
noncomputable def ftok (o : Out) : Nat := match o with
  | .fin _ _ T _ _ => match T.get 3 with
    | some (_, ob) => match ob.data with
      | .seq xs _ => match xs.toList with
        | [_, .int _ t] => t
        | _ => 0
      | _ => 0
    | none => 0
  | _ => 0
noncomputable def rtok (o : Out) : Nat := match o with
  | .fin r _ _ _ _ => match r with
    | .ok (.ret (.int _ t)) => t
    | _ => 0
  | _ => 0
noncomputable def nx (w : World) (kt : KT) (g : PySem.Ctx) (p0 : Pos) (A : Nat → Nat) (co : Obj) (t tt many mt : Nat) (xs : List XE) (ts as : Nat → Nat) (ce : List Nat) : Out := ev D1 (SW w) (SW' w) lawTA (altX xs) 30000 (callT (nextC A many mt)) [] g p0 [] kt (mkT (feedE A co (.int (.ofNat t) tt))) 300 ts as ce []
noncomputable def xsP (vs : Array Value) (t m tx many v : Nat) : List XE := [.lt (.ofNat t) (.ofNat vs.toList.length) true, .get 2 vs.toList (.ofNat t) (.int (.ofNat m) tx), .absP (.ofNat m), .fmod (.ofNat m) (.ofNat many) (.ofNat v), .len 2 vs.toList]
noncomputable def xsN (vs : Array Value) (t m tx many v : Nat) : List XE := [.lt (.ofNat t) (.ofNat vs.toList.length) true, .get 2 vs.toList (.ofNat t) (.int (.negSucc m) tx), .absN (.negSucc m) (.ofNat (m + 1)), .fmod (.ofNat (m + 1)) (.ofNat many) (.ofNat v), .len 2 vs.toList]
noncomputable def yB (n t : Nat) : Int := ((2 + Int.ofNat n) + 7 * Int.ofNat t) + Int.fdiv (Int.ofNat t) 5
noncomputable def xsB (vs : Array Value) (t many v : Nat) : List XE := [.lt (.ofNat t) (.ofNat vs.toList.length) false, .fmod (yB vs.toList.length t) (.ofNat many) (.ofNat v), .len 2 vs.toList]
set_option maxHeartbeats 0 in
theorem nx_1P (w : World) (sc : Obj) (d2 : Option Addr) (vs2 : Array Value) (n2 : Nat) (sl2 : Array (Option Value)) (p pF p0 : Pos) (A B : Nat → Nat) (I : Nat) (t tt mt v m tx : Nat) (ts as : Nat → Nat) : finL (feedE A (listO d2 vs2 n2 sl2) (.int (.ofNat (t + 1)) (ftok (nx w (KB w sc) (gL p A) p0 A (listO d2 vs2 n2 sl2) t tt 8 mt (xsP vs2 t m tx 8 v) ts as ceNP)))) (nx w (KB w sc) (gL p A) p0 A (listO d2 vs2 n2 sl2) t tt 8 mt (xsP vs2 t m tx 8 v) ts as ceNP) = finR (feedE A (listO d2 vs2 n2 sl2) (.int (.ofNat (t + 1)) (ftok (nx w (KB w sc) (gL p A) p0 A (listO d2 vs2 n2 sl2) t tt 8 mt (xsP vs2 t m tx 8 v) ts as ceNP)))) (KB w sc) (.ok (.ret (.int (.ofNat v) (rtok (nx w (KB w sc) (gL p A) p0 A (listO d2 vs2 n2 sl2) t tt 8 mt (xsP vs2 t m tx 8 v) ts as ceNP))))) (nx w (KB w sc) (gL p A) p0 A (listO d2 vs2 n2 sl2) t tt 8 mt (xsP vs2 t m tx 8 v) ts as ceNP) := by
  kernel_rfl
set_option maxHeartbeats 0 in
theorem nx_1N (w : World) (sc : Obj) (d2 : Option Addr) (vs2 : Array Value) (n2 : Nat) (sl2 : Array (Option Value)) (p pF p0 : Pos) (A B : Nat → Nat) (I : Nat) (t tt mt v m tx : Nat) (ts as : Nat → Nat) : finL (feedE A (listO d2 vs2 n2 sl2) (.int (.ofNat (t + 1)) (ftok (nx w (KB w sc) (gL p A) p0 A (listO d2 vs2 n2 sl2) t tt 8 mt (xsN vs2 t m tx 8 v) ts as ceNP)))) (nx w (KB w sc) (gL p A) p0 A (listO d2 vs2 n2 sl2) t tt 8 mt (xsN vs2 t m tx 8 v) ts as ceNP) = finR (feedE A (listO d2 vs2 n2 sl2) (.int (.ofNat (t + 1)) (ftok (nx w (KB w sc) (gL p A) p0 A (listO d2 vs2 n2 sl2) t tt 8 mt (xsN vs2 t m tx 8 v) ts as ceNP)))) (KB w sc) (.ok (.ret (.int (.ofNat v) (rtok (nx w (KB w sc) (gL p A) p0 A (listO d2 vs2 n2 sl2) t tt 8 mt (xsN vs2 t m tx 8 v) ts as ceNP))))) (nx w (KB w sc) (gL p A) p0 A (listO d2 vs2 n2 sl2) t tt 8 mt (xsN vs2 t m tx 8 v) ts as ceNP) := by
  kernel_rfl
set_option maxHeartbeats 0 in
theorem nx_1B (w : World) (sc : Obj) (d2 : Option Addr) (vs2 : Array Value) (n2 : Nat) (sl2 : Array (Option Value)) (p pF p0 : Pos) (A B : Nat → Nat) (I : Nat) (t tt mt v m tx : Nat) (ts as : Nat → Nat) : finL (feedE A (listO d2 vs2 n2 sl2) (.int (.ofNat (t + 1)) (ftok (nx w (KB w sc) (gL p A) p0 A (listO d2 vs2 n2 sl2) t tt 8 mt (xsB vs2 t 8 v) ts as ceNB)))) (nx w (KB w sc) (gL p A) p0 A (listO d2 vs2 n2 sl2) t tt 8 mt (xsB vs2 t 8 v) ts as ceNB) = finR (feedE A (listO d2 vs2 n2 sl2) (.int (.ofNat (t + 1)) (ftok (nx w (KB w sc) (gL p A) p0 A (listO d2 vs2 n2 sl2) t tt 8 mt (xsB vs2 t 8 v) ts as ceNB)))) (KB w sc) (.ok (.ret (.int (.ofNat v) (rtok (nx w (KB w sc) (gL p A) p0 A (listO d2 vs2 n2 sl2) t tt 8 mt (xsB vs2 t 8 v) ts as ceNB))))) (nx w (KB w sc) (gL p A) p0 A (listO d2 vs2 n2 sl2) t tt 8 mt (xsB vs2 t 8 v) ts as ceNB) := by
  kernel_rfl
set_option maxHeartbeats 0 in
theorem nx_2P (w : World) (sc : Obj) (d2 : Option Addr) (vs2 : Array Value) (n2 : Nat) (sl2 : Array (Option Value)) (p pF p0 : Pos) (A B : Nat → Nat) (I : Nat) (t tt mt v m tx : Nat) (ts as : Nat → Nat) : finL (feedE A (listO d2 vs2 n2 sl2) (.int (.ofNat (t + 1)) (ftok (nx w (KB2 w sc B) (gF p pF A I) p0 A (listO d2 vs2 n2 sl2) t tt 46 mt (xsP vs2 t m tx 46 v) ts as ceNP)))) (nx w (KB2 w sc B) (gF p pF A I) p0 A (listO d2 vs2 n2 sl2) t tt 46 mt (xsP vs2 t m tx 46 v) ts as ceNP) = finR (feedE A (listO d2 vs2 n2 sl2) (.int (.ofNat (t + 1)) (ftok (nx w (KB2 w sc B) (gF p pF A I) p0 A (listO d2 vs2 n2 sl2) t tt 46 mt (xsP vs2 t m tx 46 v) ts as ceNP)))) (KB2 w sc B) (.ok (.ret (.int (.ofNat v) (rtok (nx w (KB2 w sc B) (gF p pF A I) p0 A (listO d2 vs2 n2 sl2) t tt 46 mt (xsP vs2 t m tx 46 v) ts as ceNP))))) (nx w (KB2 w sc B) (gF p pF A I) p0 A (listO d2 vs2 n2 sl2) t tt 46 mt (xsP vs2 t m tx 46 v) ts as ceNP) := by
  kernel_rfl
set_option maxHeartbeats 0 in
theorem nx_2N (w : World) (sc : Obj) (d2 : Option Addr) (vs2 : Array Value) (n2 : Nat) (sl2 : Array (Option Value)) (p pF p0 : Pos) (A B : Nat → Nat) (I : Nat) (t tt mt v m tx : Nat) (ts as : Nat → Nat) : finL (feedE A (listO d2 vs2 n2 sl2) (.int (.ofNat (t + 1)) (ftok (nx w (KB2 w sc B) (gF p pF A I) p0 A (listO d2 vs2 n2 sl2) t tt 46 mt (xsN vs2 t m tx 46 v) ts as ceNP)))) (nx w (KB2 w sc B) (gF p pF A I) p0 A (listO d2 vs2 n2 sl2) t tt 46 mt (xsN vs2 t m tx 46 v) ts as ceNP) = finR (feedE A (listO d2 vs2 n2 sl2) (.int (.ofNat (t + 1)) (ftok (nx w (KB2 w sc B) (gF p pF A I) p0 A (listO d2 vs2 n2 sl2) t tt 46 mt (xsN vs2 t m tx 46 v) ts as ceNP)))) (KB2 w sc B) (.ok (.ret (.int (.ofNat v) (rtok (nx w (KB2 w sc B) (gF p pF A I) p0 A (listO d2 vs2 n2 sl2) t tt 46 mt (xsN vs2 t m tx 46 v) ts as ceNP))))) (nx w (KB2 w sc B) (gF p pF A I) p0 A (listO d2 vs2 n2 sl2) t tt 46 mt (xsN vs2 t m tx 46 v) ts as ceNP) := by
  kernel_rfl
set_option maxHeartbeats 0 in
theorem nx_2B (w : World) (sc : Obj) (d2 : Option Addr) (vs2 : Array Value) (n2 : Nat) (sl2 : Array (Option Value)) (p pF p0 : Pos) (A B : Nat → Nat) (I : Nat) (t tt mt v m tx : Nat) (ts as : Nat → Nat) : finL (feedE A (listO d2 vs2 n2 sl2) (.int (.ofNat (t + 1)) (ftok (nx w (KB2 w sc B) (gF p pF A I) p0 A (listO d2 vs2 n2 sl2) t tt 46 mt (xsB vs2 t 46 v) ts as ceNB)))) (nx w (KB2 w sc B) (gF p pF A I) p0 A (listO d2 vs2 n2 sl2) t tt 46 mt (xsB vs2 t 46 v) ts as ceNB) = finR (feedE A (listO d2 vs2 n2 sl2) (.int (.ofNat (t + 1)) (ftok (nx w (KB2 w sc B) (gF p pF A I) p0 A (listO d2 vs2 n2 sl2) t tt 46 mt (xsB vs2 t 46 v) ts as ceNB)))) (KB2 w sc B) (.ok (.ret (.int (.ofNat v) (rtok (nx w (KB2 w sc B) (gF p pF A I) p0 A (listO d2 vs2 n2 sl2) t tt 46 mt (xsB vs2 t 46 v) ts as ceNB))))) (nx w (KB2 w sc B) (gF p pF A I) p0 A (listO d2 vs2 n2 sl2) t tt 46 mt (xsB vs2 t 46 v) ts as ceNB) := by
  kernel_rfl

end Mine
end
section
open PySem PySem.W PySem.W.X
open Sem (wp)
set_option maxRecDepth 1000000
namespace Mine
noncomputable def ceL1 : List (List Nat) := [ceA1_0, ceA1_1, ceA1_2, ceA1_3, ceA1_4, ceA1_5, ceA1_6, ceA1_7, ceA1_8, ceA1_9, ceA1_10, ceA1_11, ceA1_12, ceA1_13, ceA1_14, ceA1_15, ceA1_16, ceA1_17, ceA1_18, ceA1_19, ceA1_20, ceA1_21, ceA1_22, ceA1_23, ceA1_24, ceA1_25, ceA1_26, ceA1_27, ceA1_28, ceA1_29, ceA1_30, ceA1_31, ceA1_32, ceA1_33, ceA1_34, ceA1_35, ceA1_36, ceA1_37, ceA1_38, ceA1_39, ceA1_40, ceA1_41, ceA1_42, ceA1_43, ceA1_44, ceA1_45]
noncomputable def ceL2 : List (List Nat) := [ceA2_0, ceA2_1, ceA2_2, ceA2_3, ceA2_4, ceA2_5, ceA2_6, ceA2_7, ceA2_8, ceA2_9, ceA2_10, ceA2_11, ceA2_12, ceA2_13, ceA2_14, ceA2_15, ceA2_16, ceA2_17, ceA2_18, ceA2_19, ceA2_20, ceA2_21, ceA2_22, ceA2_23, ceA2_24, ceA2_25, ceA2_26, ceA2_27, ceA2_28, ceA2_29, ceA2_30, ceA2_31, ceA2_32, ceA2_33, ceA2_34, ceA2_35, ceA2_36, ceA2_37, ceA2_38, ceA2_39, ceA2_40, ceA2_41, ceA2_42, ceA2_43, ceA2_44, ceA2_45]
theorem tb1_all (w : World) (sc : Obj) (d2 : Option Addr) (vs2 : Array Value) (n2 : Nat) (sl2 : Array (Option Value)) (p pF p0 : Pos) (A U : Nat → Nat) (I : Nat) (fv : Value) (c r : Nat) (ts as : Nat → Nat) (t tt vt : Nat) (ts2 as2 : Nat → Nat) : ∀ v, v < 46 → finL (tl1 w (listO d2 vs2 n2 sl2) A U I c r ts as t tt ts2 (tb1 w sc (listO d2 vs2 n2 sl2) p pF p0 A U I fv c r ts as v t tt vt ts2 as2 (ceL1.getD v []))) (tb1 w sc (listO d2 vs2 n2 sl2) p pF p0 A U I fv c r ts as v t tt vt ts2 as2 (ceL1.getD v [])) = finR (tl1 w (listO d2 vs2 n2 sl2) A U I c r ts as t tt ts2 (tb1 w sc (listO d2 vs2 n2 sl2) p pF p0 A U I fv c r ts as v t tt vt ts2 as2 (ceL1.getD v []))) (KB2 w sc as) (.ok (.ret .none)) (tb1 w sc (listO d2 vs2 n2 sl2) p pF p0 A U I fv c r ts as v t tt vt ts2 as2 (ceL1.getD v []))
  | 0, _ => (tb1_g0 w sc d2 vs2 n2 sl2 p pF p0 A U I fv c r ts as t tt vt ts2 as2).1
  | 1, _ => (tb1_g0 w sc d2 vs2 n2 sl2 p pF p0 A U I fv c r ts as t tt vt ts2 as2).2.1
  | 2, _ => (tb1_g0 w sc d2 vs2 n2 sl2 p pF p0 A U I fv c r ts as t tt vt ts2 as2).2.2.1
  | 3, _ => (tb1_g0 w sc d2 vs2 n2 sl2 p pF p0 A U I fv c r ts as t tt vt ts2 as2).2.2.2.1
  | 4, _ => (tb1_g0 w sc d2 vs2 n2 sl2 p pF p0 A U I fv c r ts as t tt vt ts2 as2).2.2.2.2.1
  | 5, _ => (tb1_g0 w sc d2 vs2 n2 sl2 p pF p0 A U I fv c r ts as t tt vt ts2 as2).2.2.2.2.2.1
  | 6, _ => (tb1_g0 w sc d2 vs2 n2 sl2 p pF p0 A U I fv c r ts as t tt vt ts2 as2).2.2.2.2.2.2.1
  | 7, _ => (tb1_g0 w sc d2 vs2 n2 sl2 p pF p0 A U I fv c r ts as t tt vt ts2 as2).2.2.2.2.2.2.2.1
  | 8, _ => (tb1_g0 w sc d2 vs2 n2 sl2 p pF p0 A U I fv c r ts as t tt vt ts2 as2).2.2.2.2.2.2.2.2.1
  | 9, _ => (tb1_g0 w sc d2 vs2 n2 sl2 p pF p0 A U I fv c r ts as t tt vt ts2 as2).2.2.2.2.2.2.2.2.2.1
  | 10, _ => (tb1_g0 w sc d2 vs2 n2 sl2 p pF p0 A U I fv c r ts as t tt vt ts2 as2).2.2.2.2.2.2.2.2.2.2.1
  | 11, _ => (tb1_g0 w sc d2 vs2 n2 sl2 p pF p0 A U I fv c r ts as t tt vt ts2 as2).2.2.2.2.2.2.2.2.2.2.2
  | 12, _ => (tb1_g1 w sc d2 vs2 n2 sl2 p pF p0 A U I fv c r ts as t tt vt ts2 as2).1
  | 13, _ => (tb1_g1 w sc d2 vs2 n2 sl2 p pF p0 A U I fv c r ts as t tt vt ts2 as2).2.1
  | 14, _ => (tb1_g1 w sc d2 vs2 n2 sl2 p pF p0 A U I fv c r ts as t tt vt ts2 as2).2.2.1
  | 15, _ => (tb1_g1 w sc d2 vs2 n2 sl2 p pF p0 A U I fv c r ts as t tt vt ts2 as2).2.2.2.1
  | 16, _ => (tb1_g1 w sc d2 vs2 n2 sl2 p pF p0 A U I fv c r ts as t tt vt ts2 as2).2.2.2.2.1
  | 17, _ => (tb1_g1 w sc d2 vs2 n2 sl2 p pF p0 A U I fv c r ts as t tt vt ts2 as2).2.2.2.2.2.1
  | 18, _ => (tb1_g1 w sc d2 vs2 n2 sl2 p pF p0 A U I fv c r ts as t tt vt ts2 as2).2.2.2.2.2.2.1
  | 19, _ => (tb1_g1 w sc d2 vs2 n2 sl2 p pF p0 A U I fv c r ts as t tt vt ts2 as2).2.2.2.2.2.2.2.1
  | 20, _ => (tb1_g1 w sc d2 vs2 n2 sl2 p pF p0 A U I fv c r ts as t tt vt ts2 as2).2.2.2.2.2.2.2.2.1
  | 21, _ => (tb1_g1 w sc d2 vs2 n2 sl2 p pF p0 A U I fv c r ts as t tt vt ts2 as2).2.2.2.2.2.2.2.2.2.1
  | 22, _ => (tb1_g1 w sc d2 vs2 n2 sl2 p pF p0 A U I fv c r ts as t tt vt ts2 as2).2.2.2.2.2.2.2.2.2.2.1
  | 23, _ => (tb1_g1 w sc d2 vs2 n2 sl2 p pF p0 A U I fv c r ts as t tt vt ts2 as2).2.2.2.2.2.2.2.2.2.2.2
  | 24, _ => (tb1_g2 w sc d2 vs2 n2 sl2 p pF p0 A U I fv c r ts as t tt vt ts2 as2).1
  | 25, _ => (tb1_g2 w sc d2 vs2 n2 sl2 p pF p0 A U I fv c r ts as t tt vt ts2 as2).2.1
  | 26, _ => (tb1_g2 w sc d2 vs2 n2 sl2 p pF p0 A U I fv c r ts as t tt vt ts2 as2).2.2.1
  | 27, _ => (tb1_g2 w sc d2 vs2 n2 sl2 p pF p0 A U I fv c r ts as t tt vt ts2 as2).2.2.2.1
  | 28, _ => (tb1_g2 w sc d2 vs2 n2 sl2 p pF p0 A U I fv c r ts as t tt vt ts2 as2).2.2.2.2.1
  | 29, _ => (tb1_g2 w sc d2 vs2 n2 sl2 p pF p0 A U I fv c r ts as t tt vt ts2 as2).2.2.2.2.2.1
  | 30, _ => (tb1_g2 w sc d2 vs2 n2 sl2 p pF p0 A U I fv c r ts as t tt vt ts2 as2).2.2.2.2.2.2.1
  | 31, _ => (tb1_g2 w sc d2 vs2 n2 sl2 p pF p0 A U I fv c r ts as t tt vt ts2 as2).2.2.2.2.2.2.2.1
  | 32, _ => (tb1_g2 w sc d2 vs2 n2 sl2 p pF p0 A U I fv c r ts as t tt vt ts2 as2).2.2.2.2.2.2.2.2.1
  | 33, _ => (tb1_g2 w sc d2 vs2 n2 sl2 p pF p0 A U I fv c r ts as t tt vt ts2 as2).2.2.2.2.2.2.2.2.2.1
  | 34, _ => (tb1_g2 w sc d2 vs2 n2 sl2 p pF p0 A U I fv c r ts as t tt vt ts2 as2).2.2.2.2.2.2.2.2.2.2
  | 35, _ => (tb1_g3 w sc d2 vs2 n2 sl2 p pF p0 A U I fv c r ts as t tt vt ts2 as2).1
  | 36, _ => (tb1_g3 w sc d2 vs2 n2 sl2 p pF p0 A U I fv c r ts as t tt vt ts2 as2).2.1
  | 37, _ => (tb1_g3 w sc d2 vs2 n2 sl2 p pF p0 A U I fv c r ts as t tt vt ts2 as2).2.2.1
  | 38, _ => (tb1_g3 w sc d2 vs2 n2 sl2 p pF p0 A U I fv c r ts as t tt vt ts2 as2).2.2.2.1
  | 39, _ => (tb1_g3 w sc d2 vs2 n2 sl2 p pF p0 A U I fv c r ts as t tt vt ts2 as2).2.2.2.2.1
  | 40, _ => (tb1_g3 w sc d2 vs2 n2 sl2 p pF p0 A U I fv c r ts as t tt vt ts2 as2).2.2.2.2.2.1
  | 41, _ => (tb1_g3 w sc d2 vs2 n2 sl2 p pF p0 A U I fv c r ts as t tt vt ts2 as2).2.2.2.2.2.2.1
  | 42, _ => (tb1_g3 w sc d2 vs2 n2 sl2 p pF p0 A U I fv c r ts as t tt vt ts2 as2).2.2.2.2.2.2.2.1
  | 43, _ => (tb1_g3 w sc d2 vs2 n2 sl2 p pF p0 A U I fv c r ts as t tt vt ts2 as2).2.2.2.2.2.2.2.2.1
  | 44, _ => (tb1_g3 w sc d2 vs2 n2 sl2 p pF p0 A U I fv c r ts as t tt vt ts2 as2).2.2.2.2.2.2.2.2.2.1
  | 45, _ => (tb1_g3 w sc d2 vs2 n2 sl2 p pF p0 A U I fv c r ts as t tt vt ts2 as2).2.2.2.2.2.2.2.2.2.2
  | n + 46, h => absurd h (by omega)
theorem tb2_all (w : World) (sc : Obj) (d2 : Option Addr) (vs2 : Array Value) (n2 : Nat) (sl2 : Array (Option Value)) (p pF p0 : Pos) (A U B U2 : Nat → Nat) (I : Nat) (fv : Value) (c r k1 k2 k3 k4 : Nat) (vt ve vc vd : Value) (ts as : Nat → Nat) (t tt v0 : Nat) (ts2 as2 : Nat → Nat) : ∀ v, v < 46 → finL (stL2 w.params A U B U2 I (listO d2 vs2 n2 sl2) (.int (.ofNat t) tt) (c + 1) r k1 k2 k3 k4 (dval (tb2 w sc p pF p0 A B I (stL2 w.params A U B U2 I (listO d2 vs2 n2 sl2) fv c (r + 1) k1 k2 k3 k4 vt ve vc vd) ts as v t tt v0 ts2 as2 (ceL2.getD v [])) 4) (dval (tb2 w sc p pF p0 A B I (stL2 w.params A U B U2 I (listO d2 vs2 n2 sl2) fv c (r + 1) k1 k2 k3 k4 vt ve vc vd) ts as v t tt v0 ts2 as2 (ceL2.getD v [])) 5) (dval (tb2 w sc p pF p0 A B I (stL2 w.params A U B U2 I (listO d2 vs2 n2 sl2) fv c (r + 1) k1 k2 k3 k4 vt ve vc vd) ts as v t tt v0 ts2 as2 (ceL2.getD v [])) 6) (dval (tb2 w sc p pF p0 A B I (stL2 w.params A U B U2 I (listO d2 vs2 n2 sl2) fv c (r + 1) k1 k2 k3 k4 vt ve vc vd) ts as v t tt v0 ts2 as2 (ceL2.getD v [])) 7)) (tb2 w sc p pF p0 A B I (stL2 w.params A U B U2 I (listO d2 vs2 n2 sl2) fv c (r + 1) k1 k2 k3 k4 vt ve vc vd) ts as v t tt v0 ts2 as2 (ceL2.getD v [])) = finR (stL2 w.params A U B U2 I (listO d2 vs2 n2 sl2) (.int (.ofNat t) tt) (c + 1) r k1 k2 k3 k4 (dval (tb2 w sc p pF p0 A B I (stL2 w.params A U B U2 I (listO d2 vs2 n2 sl2) fv c (r + 1) k1 k2 k3 k4 vt ve vc vd) ts as v t tt v0 ts2 as2 (ceL2.getD v [])) 4) (dval (tb2 w sc p pF p0 A B I (stL2 w.params A U B U2 I (listO d2 vs2 n2 sl2) fv c (r + 1) k1 k2 k3 k4 vt ve vc vd) ts as v t tt v0 ts2 as2 (ceL2.getD v [])) 5) (dval (tb2 w sc p pF p0 A B I (stL2 w.params A U B U2 I (listO d2 vs2 n2 sl2) fv c (r + 1) k1 k2 k3 k4 vt ve vc vd) ts as v t tt v0 ts2 as2 (ceL2.getD v [])) 6) (dval (tb2 w sc p pF p0 A B I (stL2 w.params A U B U2 I (listO d2 vs2 n2 sl2) fv c (r + 1) k1 k2 k3 k4 vt ve vc vd) ts as v t tt v0 ts2 as2 (ceL2.getD v [])) 7)) (KB2 w sc B) (.ok (.ret .none)) (tb2 w sc p pF p0 A B I (stL2 w.params A U B U2 I (listO d2 vs2 n2 sl2) fv c (r + 1) k1 k2 k3 k4 vt ve vc vd) ts as v t tt v0 ts2 as2 (ceL2.getD v []))
  | 0, _ => (tb2_g0 w sc d2 vs2 n2 sl2 p pF p0 A U B U2 I fv c r k1 k2 k3 k4 vt ve vc vd ts as t tt v0 ts2 as2).1
  | 1, _ => (tb2_g0 w sc d2 vs2 n2 sl2 p pF p0 A U B U2 I fv c r k1 k2 k3 k4 vt ve vc vd ts as t tt v0 ts2 as2).2.1
  | 2, _ => (tb2_g0 w sc d2 vs2 n2 sl2 p pF p0 A U B U2 I fv c r k1 k2 k3 k4 vt ve vc vd ts as t tt v0 ts2 as2).2.2.1
  | 3, _ => (tb2_g0 w sc d2 vs2 n2 sl2 p pF p0 A U B U2 I fv c r k1 k2 k3 k4 vt ve vc vd ts as t tt v0 ts2 as2).2.2.2.1
  | 4, _ => (tb2_g0 w sc d2 vs2 n2 sl2 p pF p0 A U B U2 I fv c r k1 k2 k3 k4 vt ve vc vd ts as t tt v0 ts2 as2).2.2.2.2.1
  | 5, _ => (tb2_g0 w sc d2 vs2 n2 sl2 p pF p0 A U B U2 I fv c r k1 k2 k3 k4 vt ve vc vd ts as t tt v0 ts2 as2).2.2.2.2.2.1
  | 6, _ => (tb2_g0 w sc d2 vs2 n2 sl2 p pF p0 A U B U2 I fv c r k1 k2 k3 k4 vt ve vc vd ts as t tt v0 ts2 as2).2.2.2.2.2.2.1
  | 7, _ => (tb2_g0 w sc d2 vs2 n2 sl2 p pF p0 A U B U2 I fv c r k1 k2 k3 k4 vt ve vc vd ts as t tt v0 ts2 as2).2.2.2.2.2.2.2.1
  | 8, _ => (tb2_g0 w sc d2 vs2 n2 sl2 p pF p0 A U B U2 I fv c r k1 k2 k3 k4 vt ve vc vd ts as t tt v0 ts2 as2).2.2.2.2.2.2.2.2.1
  | 9, _ => (tb2_g0 w sc d2 vs2 n2 sl2 p pF p0 A U B U2 I fv c r k1 k2 k3 k4 vt ve vc vd ts as t tt v0 ts2 as2).2.2.2.2.2.2.2.2.2.1
  | 10, _ => (tb2_g0 w sc d2 vs2 n2 sl2 p pF p0 A U B U2 I fv c r k1 k2 k3 k4 vt ve vc vd ts as t tt v0 ts2 as2).2.2.2.2.2.2.2.2.2.2.1
  | 11, _ => (tb2_g0 w sc d2 vs2 n2 sl2 p pF p0 A U B U2 I fv c r k1 k2 k3 k4 vt ve vc vd ts as t tt v0 ts2 as2).2.2.2.2.2.2.2.2.2.2.2
  | 12, _ => (tb2_g1 w sc d2 vs2 n2 sl2 p pF p0 A U B U2 I fv c r k1 k2 k3 k4 vt ve vc vd ts as t tt v0 ts2 as2).1
  | 13, _ => (tb2_g1 w sc d2 vs2 n2 sl2 p pF p0 A U B U2 I fv c r k1 k2 k3 k4 vt ve vc vd ts as t tt v0 ts2 as2).2.1
  | 14, _ => (tb2_g1 w sc d2 vs2 n2 sl2 p pF p0 A U B U2 I fv c r k1 k2 k3 k4 vt ve vc vd ts as t tt v0 ts2 as2).2.2.1
  | 15, _ => (tb2_g1 w sc d2 vs2 n2 sl2 p pF p0 A U B U2 I fv c r k1 k2 k3 k4 vt ve vc vd ts as t tt v0 ts2 as2).2.2.2.1
  | 16, _ => (tb2_g1 w sc d2 vs2 n2 sl2 p pF p0 A U B U2 I fv c r k1 k2 k3 k4 vt ve vc vd ts as t tt v0 ts2 as2).2.2.2.2.1
  | 17, _ => (tb2_g1 w sc d2 vs2 n2 sl2 p pF p0 A U B U2 I fv c r k1 k2 k3 k4 vt ve vc vd ts as t tt v0 ts2 as2).2.2.2.2.2.1
  | 18, _ => (tb2_g1 w sc d2 vs2 n2 sl2 p pF p0 A U B U2 I fv c r k1 k2 k3 k4 vt ve vc vd ts as t tt v0 ts2 as2).2.2.2.2.2.2.1
  | 19, _ => (tb2_g1 w sc d2 vs2 n2 sl2 p pF p0 A U B U2 I fv c r k1 k2 k3 k4 vt ve vc vd ts as t tt v0 ts2 as2).2.2.2.2.2.2.2.1
  | 20, _ => (tb2_g1 w sc d2 vs2 n2 sl2 p pF p0 A U B U2 I fv c r k1 k2 k3 k4 vt ve vc vd ts as t tt v0 ts2 as2).2.2.2.2.2.2.2.2.1
  | 21, _ => (tb2_g1 w sc d2 vs2 n2 sl2 p pF p0 A U B U2 I fv c r k1 k2 k3 k4 vt ve vc vd ts as t tt v0 ts2 as2).2.2.2.2.2.2.2.2.2.1
  | 22, _ => (tb2_g1 w sc d2 vs2 n2 sl2 p pF p0 A U B U2 I fv c r k1 k2 k3 k4 vt ve vc vd ts as t tt v0 ts2 as2).2.2.2.2.2.2.2.2.2.2.1
  | 23, _ => (tb2_g1 w sc d2 vs2 n2 sl2 p pF p0 A U B U2 I fv c r k1 k2 k3 k4 vt ve vc vd ts as t tt v0 ts2 as2).2.2.2.2.2.2.2.2.2.2.2
  | 24, _ => (tb2_g2 w sc d2 vs2 n2 sl2 p pF p0 A U B U2 I fv c r k1 k2 k3 k4 vt ve vc vd ts as t tt v0 ts2 as2).1
  | 25, _ => (tb2_g2 w sc d2 vs2 n2 sl2 p pF p0 A U B U2 I fv c r k1 k2 k3 k4 vt ve vc vd ts as t tt v0 ts2 as2).2.1
  | 26, _ => (tb2_g2 w sc d2 vs2 n2 sl2 p pF p0 A U B U2 I fv c r k1 k2 k3 k4 vt ve vc vd ts as t tt v0 ts2 as2).2.2.1
  | 27, _ => (tb2_g2 w sc d2 vs2 n2 sl2 p pF p0 A U B U2 I fv c r k1 k2 k3 k4 vt ve vc vd ts as t tt v0 ts2 as2).2.2.2.1
  | 28, _ => (tb2_g2 w sc d2 vs2 n2 sl2 p pF p0 A U B U2 I fv c r k1 k2 k3 k4 vt ve vc vd ts as t tt v0 ts2 as2).2.2.2.2.1
  | 29, _ => (tb2_g2 w sc d2 vs2 n2 sl2 p pF p0 A U B U2 I fv c r k1 k2 k3 k4 vt ve vc vd ts as t tt v0 ts2 as2).2.2.2.2.2.1
  | 30, _ => (tb2_g2 w sc d2 vs2 n2 sl2 p pF p0 A U B U2 I fv c r k1 k2 k3 k4 vt ve vc vd ts as t tt v0 ts2 as2).2.2.2.2.2.2.1
  | 31, _ => (tb2_g2 w sc d2 vs2 n2 sl2 p pF p0 A U B U2 I fv c r k1 k2 k3 k4 vt ve vc vd ts as t tt v0 ts2 as2).2.2.2.2.2.2.2.1
  | 32, _ => (tb2_g2 w sc d2 vs2 n2 sl2 p pF p0 A U B U2 I fv c r k1 k2 k3 k4 vt ve vc vd ts as t tt v0 ts2 as2).2.2.2.2.2.2.2.2.1
  | 33, _ => (tb2_g2 w sc d2 vs2 n2 sl2 p pF p0 A U B U2 I fv c r k1 k2 k3 k4 vt ve vc vd ts as t tt v0 ts2 as2).2.2.2.2.2.2.2.2.2.1
  | 34, _ => (tb2_g2 w sc d2 vs2 n2 sl2 p pF p0 A U B U2 I fv c r k1 k2 k3 k4 vt ve vc vd ts as t tt v0 ts2 as2).2.2.2.2.2.2.2.2.2.2
  | 35, _ => (tb2_g3 w sc d2 vs2 n2 sl2 p pF p0 A U B U2 I fv c r k1 k2 k3 k4 vt ve vc vd ts as t tt v0 ts2 as2).1
  | 36, _ => (tb2_g3 w sc d2 vs2 n2 sl2 p pF p0 A U B U2 I fv c r k1 k2 k3 k4 vt ve vc vd ts as t tt v0 ts2 as2).2.1
  | 37, _ => (tb2_g3 w sc d2 vs2 n2 sl2 p pF p0 A U B U2 I fv c r k1 k2 k3 k4 vt ve vc vd ts as t tt v0 ts2 as2).2.2.1
  | 38, _ => (tb2_g3 w sc d2 vs2 n2 sl2 p pF p0 A U B U2 I fv c r k1 k2 k3 k4 vt ve vc vd ts as t tt v0 ts2 as2).2.2.2.1
  | 39, _ => (tb2_g3 w sc d2 vs2 n2 sl2 p pF p0 A U B U2 I fv c r k1 k2 k3 k4 vt ve vc vd ts as t tt v0 ts2 as2).2.2.2.2.1
  | 40, _ => (tb2_g3 w sc d2 vs2 n2 sl2 p pF p0 A U B U2 I fv c r k1 k2 k3 k4 vt ve vc vd ts as t tt v0 ts2 as2).2.2.2.2.2.1
  | 41, _ => (tb2_g3 w sc d2 vs2 n2 sl2 p pF p0 A U B U2 I fv c r k1 k2 k3 k4 vt ve vc vd ts as t tt v0 ts2 as2).2.2.2.2.2.2.1
  | 42, _ => (tb2_g3 w sc d2 vs2 n2 sl2 p pF p0 A U B U2 I fv c r k1 k2 k3 k4 vt ve vc vd ts as t tt v0 ts2 as2).2.2.2.2.2.2.2.1
  | 43, _ => (tb2_g3 w sc d2 vs2 n2 sl2 p pF p0 A U B U2 I fv c r k1 k2 k3 k4 vt ve vc vd ts as t tt v0 ts2 as2).2.2.2.2.2.2.2.2.1
  | 44, _ => (tb2_g3 w sc d2 vs2 n2 sl2 p pF p0 A U B U2 I fv c r k1 k2 k3 k4 vt ve vc vd ts as t tt v0 ts2 as2).2.2.2.2.2.2.2.2.2.1
  | 45, _ => (tb2_g3 w sc d2 vs2 n2 sl2 p pF p0 A U B U2 I fv c r k1 k2 k3 k4 vt ve vc vd ts as t tt v0 ts2 as2).2.2.2.2.2.2.2.2.2.2
  | n + 46, h => absurd h (by omega)
theorem f_cut_all (w : World) (sc : Obj) (d2 : Option Addr) (vs2 : Array Value) (n2 : Nat) (sl2 : Array (Option Value)) (p p0 : Pos) (A U ts as : Nat → Nat) (fv : Value) (t tt vt : Nat) (ts2 as2 : Nat → Nat) : ∀ v, v < 8 → cutL (stL1 w.params A U (as2 1) (listO d2 vs2 n2 sl2) (.int (.ofNat t) tt) 0 (v + 1)) (fb w sc (listO d2 vs2 n2 sl2) p p0 A U fv ts as v t tt vt ts2 as2) = some (cdFor A (as2 1), none, gL p A, KB w sc, (stL1 w.params A U (as2 1) (listO d2 vs2 n2 sl2) (.int (.ofNat t) tt) 0 (v + 1)).map fun e => some e.2)
  | 0, _ => (f_cut2 w sc d2 vs2 n2 sl2 p p0 A U ts as fv t tt vt ts2 as2).1
  | 1, _ => (f_cut2 w sc d2 vs2 n2 sl2 p p0 A U ts as fv t tt vt ts2 as2).2.1
  | 2, _ => (f_cut2 w sc d2 vs2 n2 sl2 p p0 A U ts as fv t tt vt ts2 as2).2.2.1
  | 3, _ => (f_cut2 w sc d2 vs2 n2 sl2 p p0 A U ts as fv t tt vt ts2 as2).2.2.2.1
  | 4, _ => (f_cut2 w sc d2 vs2 n2 sl2 p p0 A U ts as fv t tt vt ts2 as2).2.2.2.2.1
  | 5, _ => (f_cut2 w sc d2 vs2 n2 sl2 p p0 A U ts as fv t tt vt ts2 as2).2.2.2.2.2.1
  | 6, _ => (f_cut2 w sc d2 vs2 n2 sl2 p p0 A U ts as fv t tt vt ts2 as2).2.2.2.2.2.2.1
  | 7, _ => (f_cut2 w sc d2 vs2 n2 sl2 p p0 A U ts as fv t tt vt ts2 as2).2.2.2.2.2.2.2
  | n + 8, h => absurd h (by omega)
theorem f_fin_all (w : World) (sc : Obj) (d2 : Option Addr) (vs2 : Array Value) (n2 : Nat) (sl2 : Array (Option Value)) (p p0 : Pos) (A U ts as : Nat → Nat) (fv : Value) (t tt vt : Nat) (ts2 as2 : Nat → Nat)  (B U2 : Nat → Nat) (fv3 : Value) (c k1 k2 k3 k4 : Nat) (x1 x2 x3 x4 : Value) (ts3 as3 : Nat → Nat) : ∀ v, v < 8 → finL (stL2 w.params A U B U2 (as2 1) (listO d2 vs2 n2 sl2) fv3 c 0 k1 k2 k3 k4 x1 x2 x3 x4) (fc w sc (listO d2 vs2 n2 sl2) p p0 A U fv ts as v t tt vt ts2 as2 B (mkT (stL2 w.params A U B U2 (as2 1) (listO d2 vs2 n2 sl2) fv3 c 0 k1 k2 k3 k4 x1 x2 x3 x4)) ts3 as3) = finR (stL2 w.params A U B U2 (as2 1) (listO d2 vs2 n2 sl2) fv3 c 0 k1 k2 k3 k4 x1 x2 x3 x4) (KB2 w sc B) (.ok (.ret .none)) (fc w sc (listO d2 vs2 n2 sl2) p p0 A U fv ts as v t tt vt ts2 as2 B (mkT (stL2 w.params A U B U2 (as2 1) (listO d2 vs2 n2 sl2) fv3 c 0 k1 k2 k3 k4 x1 x2 x3 x4)) ts3 as3)
  | 0, _ => (f_fin w sc d2 vs2 n2 sl2 p p0 A U ts as fv t tt vt ts2 as2 B U2 fv3 c k1 k2 k3 k4 x1 x2 x3 x4 ts3 as3).1
  | 1, _ => (f_fin w sc d2 vs2 n2 sl2 p p0 A U ts as fv t tt vt ts2 as2 B U2 fv3 c k1 k2 k3 k4 x1 x2 x3 x4 ts3 as3).2.1
  | 2, _ => (f_fin w sc d2 vs2 n2 sl2 p p0 A U ts as fv t tt vt ts2 as2 B U2 fv3 c k1 k2 k3 k4 x1 x2 x3 x4 ts3 as3).2.2.1
  | 3, _ => (f_fin w sc d2 vs2 n2 sl2 p p0 A U ts as fv t tt vt ts2 as2 B U2 fv3 c k1 k2 k3 k4 x1 x2 x3 x4 ts3 as3).2.2.2.1
  | 4, _ => (f_fin w sc d2 vs2 n2 sl2 p p0 A U ts as fv t tt vt ts2 as2 B U2 fv3 c k1 k2 k3 k4 x1 x2 x3 x4 ts3 as3).2.2.2.2.1
  | 5, _ => (f_fin w sc d2 vs2 n2 sl2 p p0 A U ts as fv t tt vt ts2 as2 B U2 fv3 c k1 k2 k3 k4 x1 x2 x3 x4 ts3 as3).2.2.2.2.2.1
  | 6, _ => (f_fin w sc d2 vs2 n2 sl2 p p0 A U ts as fv t tt vt ts2 as2 B U2 fv3 c k1 k2 k3 k4 x1 x2 x3 x4 ts3 as3).2.2.2.2.2.2.1
  | 7, _ => (f_fin w sc d2 vs2 n2 sl2 p p0 A U ts as fv t tt vt ts2 as2 B U2 fv3 c k1 k2 k3 k4 x1 x2 x3 x4 ts3 as3).2.2.2.2.2.2.2
  | n + 8, h => absurd h (by omega)

end Mine
end
section
open PySem PySem.W PySem.W.X
open Sem (wp)
set_option maxRecDepth 1000000
namespace Mine
section
variable {V : Vx} {R₀ : Result → Shared → Prop} {hb : Heap} {D : List Addr} {al : AltT} {kt : KT} {T : PT} {s : Shared}
theorem cut_goodX {ι : Type} (x0 : ι) {o : Out} {l : List Ent} {c0 : Code} {hd0 : Option Value} {g0 : PySem.Ctx} {kt0 : KT} (hc : cutL l o = some (c0, hd0, g0, kt0, l.map fun e => some e.2)) (O : V.Ok) (hal : AltOk V hb D al) {n : Nat} (ce2 : ι → List Nat)
    (ktF : ι → KT) (TF : ι → PT → Nat → PT) (mF : Nat → Nat) (rF : ι → Result)
    (hg : ∀ x ts as, Good V R₀ hb D (res (fun k L g p K _ T m acc => ev D1 (S0 V) (S1 V) V.TA al n (k (rF x)) L g p K (ktF x) (TF x T m) (mF m) ts as (ce2 x) acc) o))
    (contract : ∀ T m p R s, (∀ j x, (mkT l).get j = some x → T.get j = some x) → Rep V hb D kt0 T s → (∀ x s', Rep V hb D (ktF x) (TF x T m) s' → R (rF x) s') → wpCode (model V.prog V.w) (g0.enter c0 hd0 p) R p s) : Good V R₀ hb D o := by
  cases o with
  | cut c hd k L g p K kt T m acc =>
    injection hc with h
    injection h with h1 h
    injection h with h2 h
    injection h with h3 h
    injection h with h4 h5
    subst h1 h2 h3 h4
    have hg : ∀ x ts as, Good V R₀ hb D (ev D1 (S0 V) (S1 V) V.TA al n (k (rF x)) L g p K (ktF x) (TF x T m) (mF m) ts as (ce2 x) acc) := hg
    exact ⟨obl_of n _ _ _ _ _ _ _ _ _ _ _ _ (hg x0 id id), fun s R => contract T m p _ s (less_mk h5) R fun x s' R' => ev_sound1 O hal n _ _ _ _ _ _ _ _ _ _ (hg x) s' R'⟩
  | _ => cases hc
/-- the same state told anew from here -/
theorem Rep.rebase (R : Rep V hb D kt T s) {D' : List Addr} {T' : PT} (hT : ∀ j b o, T'.get j = some (b, o) → T.get j = some (b, o) ∧ b ∈ D') : Rep V s.heap D' kt T' s :=
  ⟨R.size, Nat.le_refl _, R.ktH, fun j b o e => ⟨(R.TH j b o (hT j b o e).1).1, (R.TH j b o (hT j b o e).1).2.1, .inl (hT j b o e).2⟩, fun i j b o o' e e' => R.dis i j b o o' (hT i b o e).1 (hT j b o' e').1,
    fun _ _ e _ _ => e, R.keep₁, R.tabs, R.gens, R.os⟩
theorem gF_goto (p pF : Pos) (A : Nat → Nat) (I : Nat) : (gF p pF A I).goto (cdFor A I) = gF p pF A I := rfl
theorem fmod_nat (a : Int) {n : Nat} (hn : 0 < n) : ∃ v, v < n ∧ a.fmod (.ofNat n) = .ofNat v := by
  have h0 : (0 : Int) < Int.ofNat n := by simpa using hn
  have h1 := Int.fmod_nonneg_of_pos a h0
  have h2 := Int.fmod_lt_of_pos a h0
  refine ⟨(a.fmod (.ofNat n)).toNat, ?_, ?_⟩
  · have : ((a.fmod (.ofNat n)).toNat : Int) < (n : Int) := by rw [Int.toNat_of_nonneg h1]; simpa using h2
    omega
  · have := Int.toNat_of_nonneg h1
    simp at this ⊢
    omega
/-- what _law_next gives -/
structure NV (many : Nat) where
  v : Nat
  hv : v < many
  tt : Nat
  vt : Nat
noncomputable def IntsV (vs : List Value) : Prop := ∀ (i : Nat) x, vs[i]? = some x → ∃ n tx, x = .int n tx
theorem next_core {w : World} {h₁ : Heap} {os : OsState} {g : PySem.Ctx} {p : Pos} {A : Nat → Nat} {co : Obj} {t tt many mt v : Nat} {xs : List XE} {ce : List Nat} {R : Result → Shared → Prop}
    (O : (mkV w h₁ os).Ok) (hTA : ∀ a ∈ lawTA, ∃ x, kt.get a = some x) (hxs : ∀ e ∈ xs, e.Ok) (hv : v < many)
    (heq : ∀ ts as, finL (feedE A co (.int (.ofNat (t + 1)) (ftok (nx w kt g p A co t tt many mt xs ts as ce)))) (nx w kt g p A co t tt many mt xs ts as ce) =
      finR (feedE A co (.int (.ofNat (t + 1)) (ftok (nx w kt g p A co t tt many mt xs ts as ce)))) kt (.ok (.ret (.int (.ofNat v) (rtok (nx w kt g p A co t tt many mt xs ts as ce))))) (nx w kt g p A co t tt many mt xs ts as ce))
    (hT : ∀ j x, (mkT (feedE A co (.int (.ofNat t) tt))).get j = some x → T.get j = some x) (RP : Rep (mkV w h₁ os) hb D kt T s)
    (k : ∀ (x : NV many) s', Rep (mkV w h₁ os) hb D kt (T.put 40 3 (A 3 + 268, feedO A (.int (.ofNat (t + 1)) x.tt))) s' → R (.ok (.ret (.int (.ofNat x.v) x.vt))) s') :
    wpCode (model lawP w) (g.enter (nextC A many mt) none p) R p s := by
  have e2 : (mkT (feedE A co (.int (.ofNat t) tt))).get 2 = some (A 2 + 268, co) := by kernel_rfl
  have e3 : (mkT (feedE A co (.int (.ofNat t) tt))).get 3 = some (A 3 + 268, feedO A (.int (.ofNat t) tt)) := by kernel_rfl
  have RB : Rep (mkV w h₁ os) s.heap [A 2 + 268, A 3 + 268] kt (mkT (feedE A co (.int (.ofNat t) tt))) s := by
    refine RP.rebase fun j b o e => ⟨hT j _ e, ?_⟩
    have := mkT_mem e
    unfold feedE at this
    simp only [List.mem_cons, List.not_mem_nil, or_false, Prod.mk.injEq] at this
    rcases this with ⟨_, rfl, _⟩ | ⟨_, rfl, _⟩
    · exact List.mem_cons_self
    · exact List.mem_cons_of_mem _ List.mem_cons_self
  let R1 : Result → Shared → Prop := fun r s' => ∃ tt' vt, r = .ok (.ret (.int (.ofNat v) vt)) ∧ Rep (mkV w h₁ os) s.heap [A 2 + 268, A 3 + 268] kt (mkT (feedE A co (.int (.ofNat (t + 1)) tt'))) s'
  have H : Means (model lawP w) R1 (callT (nextC A many mt)) [] g p [] s :=
    ev_sound1 (V := mkV w h₁ os) (R₀ := R1) O (altX_ok hxs _ _ _) 30000 _ _ _ _ _ _ _ _ _ _ (fun ts as => fin_good (heq ts as) fun s' R' => ⟨_, _, rfl, R'⟩) s RB
  unfold Means callT at H
  rw [Sem.wp_call] at H
  refine wpCode_mono (fun r s' hr => ?_) H
  have hr : R1 r s' := by
    cases r with
    | ok f => exact hr
    | error e => exact hr
  obtain ⟨tt', vt, rfl, R'⟩ := hr
  refine k ⟨v, hv, tt', vt⟩ s' ?_
  have f2 : (mkT (feedE A co (.int (.ofNat (t + 1)) tt'))).get 2 = some (A 2 + 268, co) := by kernel_rfl
  have f3 : (mkT (feedE A co (.int (.ofNat (t + 1)) tt'))).get 3 = some (A 3 + 268, feedO A (.int (.ofNat (t + 1)) tt')) := by kernel_rfl
  refine RP.turn O (hT 3 _ e3) (by decide) (fun a x hx ne => ?_) (R'.TH 3 _ _ f3).1 R'.hbsz R'.gens (R'.os.trans RP.os.symm)
  by_cases ha : a ∈ lawTA
  · obtain ⟨y, hy⟩ := hTA a ha
    have q1 := (RP.ktH a y hy).1
    have q2 := (R'.ktH a y hy).1
    rw [q1] at hx
    cases hx
    exact q2
  · by_cases h2 : a = A 2 + 268
    · subst h2
      have q1 := (RP.TH 2 _ _ (hT 2 _ e2)).1
      rw [q1] at hx
      cases hx
      exact (R'.TH 2 _ _ f2).1
    · exact R'.keep a x hx (by simp only [List.mem_cons, List.not_mem_nil, or_false, not_or]; exact ⟨h2, ne⟩) ha
end
end Mine
end
section
open PySem PySem.W PySem.W.X
open Sem (wp)
set_option maxRecDepth 1000000
namespace Mine
noncomputable abbrev nxE (w : World) (kt : KT) (g : PySem.Ctx) (p : Pos) (A : Nat → Nat) (co : Obj) (t tt many mt v : Nat) (xs : List XE) (ce : List Nat) : Prop := ∀ ts as, finL (feedE A co (.int (.ofNat (t + 1)) (ftok (nx w kt g p A co t tt many mt xs ts as ce)))) (nx w kt g p A co t tt many mt xs ts as ce) =
      finR (feedE A co (.int (.ofNat (t + 1)) (ftok (nx w kt g p A co t tt many mt xs ts as ce)))) kt (.ok (.ret (.int (.ofNat v) (rtok (nx w kt g p A co t tt many mt xs ts as ce))))) (nx w kt g p A co t tt many mt xs ts as ce)
theorem all_cons {α : Type} {P : α → Prop} {a : α} {l : List α} (h : P a) (h' : ∀ x ∈ l, P x) : ∀ x ∈ a :: l, P x := List.forall_mem_cons.mpr ⟨h, h'⟩
theorem all_nil {α : Type} {P : α → Prop} : ∀ x ∈ ([] : List α), P x := fun _ h => nomatch h
theorem lt_ok {a b : Nat} {r : Bool} (h : decide (a < b) = r) : XE.Ok (.lt (.ofNat a) (.ofNat b) r) := by
  show decide ((Int.ofNat a) < Int.ofNat b) = r
  rw [← h]
  congr 1
  simp
theorem next_ok {w : World} {h₁ : Heap} {os : OsState} {hb : Heap} {D : List Addr} {kt : KT} {T : PT} {s : Shared} {g : PySem.Ctx} {p : Pos} {A : Nat → Nat} {d2 : Option Addr} {vs2 : Array Value} {n2 : Nat} {sl2 : Array (Option Value)} {t tt many mt : Nat} {R : Result → Shared → Prop}
    (O : (mkV w h₁ os).Ok) (hTA : ∀ a ∈ lawTA, ∃ x, kt.get a = some x) (hI : IntsV vs2.toList) (hl : vs2.toList.length ≤ 100) (ht : t ≤ 200) (hm : 0 < many)
    (hP : ∀ v m tx, nxE w kt g p A (listO d2 vs2 n2 sl2) t tt many mt v (xsP vs2 t m tx many v) ceNP)
    (hN : ∀ v m tx, nxE w kt g p A (listO d2 vs2 n2 sl2) t tt many mt v (xsN vs2 t m tx many v) ceNP)
    (hB : ∀ v, nxE w kt g p A (listO d2 vs2 n2 sl2) t tt many mt v (xsB vs2 t many v) ceNB)
    (hT : ∀ j x, (mkT (feedE A (listO d2 vs2 n2 sl2) (.int (.ofNat t) tt))).get j = some x → T.get j = some x) (RP : Rep (mkV w h₁ os) hb D kt T s)
    (k : ∀ (x : NV many) s', Rep (mkV w h₁ os) hb D kt (T.put 40 3 (A 3 + 268, feedO A (.int (.ofNat (t + 1)) x.tt))) s' → R (.ok (.ret (.int (.ofNat x.v) x.vt))) s') :
    wpCode (model lawP w) (g.enter (nextC A many mt) none p) R p s := by
  have hm' : (Int.ofNat many) ≠ 0 := by simp; omega
  have hlen : XE.Ok (.len 2 vs2.toList) := by show ((vs2.toList.length : Nat) : Int) < 2 ^ 63; omega
  by_cases h : t < vs2.toList.length
  · have hg : vs2.toList[t]? = some (vs2.toList[t]) := List.getElem?_eq_getElem h
    obtain ⟨n, tx, hx⟩ := hI t _ hg
    rw [hx] at hg
    have hlt : XE.Ok (.lt (.ofNat t) (.ofNat vs2.toList.length) true) := lt_ok (by simpa using h)
    have hget : XE.Ok (.get 2 vs2.toList (.ofNat t) (.int n tx)) := ⟨by simp, by show ((t : Nat) : Int) < 2 ^ 63; omega, hg⟩
    cases n with
    | ofNat m =>
      obtain ⟨v, hv, he⟩ := fmod_nat (.ofNat m) hm
      exact next_core O hTA (xs := xsP vs2 t m tx many v) (all_cons hlt (all_cons hget (all_cons (show ¬ (Int.ofNat m) < 0 by simp) (all_cons ⟨hm', he⟩ (all_cons hlen all_nil))))) hv (hP v m tx) hT RP k
    | negSucc m =>
      obtain ⟨v, hv, he⟩ := fmod_nat (.ofNat (m + 1)) hm
      exact next_core O hTA (xs := xsN vs2 t m tx many v) (all_cons hlt (all_cons hget (all_cons (show Int.negSucc m < 0 ∧ -(Int.negSucc m) = Int.ofNat (m + 1) from ⟨by simp, rfl⟩) (all_cons ⟨hm', he⟩ (all_cons hlen all_nil))))) hv (hN v m tx) hT RP k
  · have hlt : XE.Ok (.lt (.ofNat t) (.ofNat vs2.toList.length) false) := lt_ok (by simpa using h)
    obtain ⟨v, hv, he⟩ := fmod_nat (yB vs2.toList.length t) hm
    exact next_core O hTA (xs := xsB vs2 t many v) (all_cons hlt (all_cons ⟨hm', he⟩ (all_cons hlen all_nil))) hv (hB v) hT RP k
theorem isSome_ex {α : Type} {o : Option α} (h : o.isSome = true) : ∃ x, o = some x := Option.isSome_iff_exists.mp h
theorem KB_ta (w : World) (sc : Obj) : ∀ a ∈ lawTA, ∃ x, (KB w sc).get a = some x :=
  all_cons (isSome_ex (by kernel_rfl)) (all_cons (isSome_ex (by kernel_rfl)) (all_cons (isSome_ex (by kernel_rfl)) all_nil))
theorem KB2_ta (w : World) (sc : Obj) (B : Nat → Nat) : ∀ a ∈ lawTA, ∃ x, (KB2 w sc B).get a = some x :=
  all_cons (isSome_ex (by kernel_rfl)) (all_cons (isSome_ex (by kernel_rfl)) (all_cons (isSome_ex (by kernel_rfl)) all_nil))
theorem block_nil {prog : Program} {w : World} {g : PySem.Ctx} {env : Env} {R : Result → Shared → Prop} {p : Pos} {s : Shared} (hc : g.code = .block [] env) (h : R (.ok .next) s) : wpCode (model prog w) g R p s := by
  rw [wpCode_iff_wp, hc]
  show wp (model prog w) g ((execs [] env).onRaise (fun x => do noteFrame x env; theTreesLotGoes x) >>= fun f => pure (Fin.done f)) _ _ p s
  rw [execs_nil, Sem.wp_bind', Sem.wp_onRaise]
  exact h
theorem for_shape : forB0 = forB0.take 2 ++ [.If (.BoolOp .Or [.Compare ifP.2.1.1 [ifP.2.1.2.1] [ifP.2.1.2.2.1] ifP.2.1.2.2.2, .Compare ifP.2.2.1.1 [ifP.2.2.1.2.1] [ifP.2.2.1.2.2.1] ifP.2.2.1.2.2.2] ifP.2.2.2.1) ifP.2.2.2.2 [] ifP.1] := by kernel_rfl
/-- what a turn leaves -/
structure LP where
  c : Nat
  t : Nat
  tt : Nat
  k1 : Nat
  k2 : Nat
  k3 : Nat
  k4 : Nat
  vt : Value
  ve : Value
  vc : Value
  vd : Value
noncomputable abbrev stX (w : World) (A U B U2 : Nat → Nat) (I : Nat) (co : Obj) (q : LP) (r : Nat) : List Ent := stL2 w.params A U B U2 I co (.int (.ofNat q.t) q.tt) q.c r q.k1 q.k2 q.k3 q.k4 q.vt q.ve q.vc q.vd
noncomputable def RL (w : World) (h₁ : Heap) (os : OsState) (hb : Heap) (D : List Addr) (sc co : Obj) (A U : Nat → Nat) (I : Nat) : Result → Shared → Prop := fun r s' => r = .ok .next ∧ ∃ B U2 q, Rep (mkV w h₁ os) hb D (KB2 w sc B) (mkT (stX w A U B U2 I co q 0)) s'
section
variable {w : World} {h₁ : Heap} {os : OsState} {hb : Heap} {D : List Addr} {sc : Obj} {d2 : Option Addr} {vs2 : Array Value} {n2 : Nat} {sl2 : Array (Option Value)} {p : Pos} {A U : Nat → Nat} {I : Nat}
theorem means_of {V : Vx} {R : Result → Shared → Prop} {hb : Heap} {D : List Addr} {t : Sem Fin} {L : List (Value → Sem Fin)} {g : PySem.Ctx} {p0 : Pos} {kt : KT} {T : PT} {m : Nat} {ce : List Nat} {s : Shared} (O : V.Ok) {o : (Nat → Nat) → (Nat → Nat) → Out}
    (ho : ∀ ts as, o ts as = ev D1 (S0 V) (S1 V) V.TA alt 30000 t L g p0 [] kt T m ts as ce []) (h : ∀ ts as, Good V R hb D (o ts as)) (RP : Rep V hb D kt T s) : Means (model V.prog V.w) R t L g p0 [] s :=
  ev_sound1 O (alt_ok V hb D) 30000 t L g p0 [] kt T m ce [] (fun ts as => ho ts as ▸ h ts as) s RP
theorem good_tb {R : Result → Shared → Prop} {pF p0 : Pos} {r : Nat} {B U2 : Nat → Nat} {q : LP} {ts as : Nat → Nat}
    (ih : ∀ p2 s2, Rep (mkV w h₁ os) hb D (KB2 w sc B) (mkT (stX w A U B U2 I (listO d2 vs2 n2 sl2) q r)) s2 → wpCode (model lawP w) (gF p pF A I) R p2 s2) :
    Good (mkV w h₁ os) R hb D (tb w sc p pF p0 A B I (stX w A U B U2 I (listO d2 vs2 n2 sl2) q r) ts as) :=
  agn_good (V := mkV w h₁ os) (l := stX w A U B U2 I (listO d2 vs2 n2 sl2) q r) (c0 := cdFor A I) (g0 := gF p pF A I) (kt0 := KB2 w sc B)
    (tb_eq w sc d2 vs2 n2 sl2 p pF p0 A U B U2 I (.int (.ofNat q.t) q.tt) q.c r q.k1 q.k2 q.k3 q.k4 q.vt q.ve q.vc q.vd ts as) (fun p2 s2 R2 => ih p2 s2 R2)
theorem means_tb (O : (mkV w h₁ os).Ok) {R : Result → Shared → Prop} {pF p0 : Pos} {s : Shared} {B : Nat → Nat} {l : List Ent} (h : ∀ ts as, Good (mkV w h₁ os) R hb D (tb w sc p pF p0 A B I l ts as))
    (RP : Rep (mkV w h₁ os) hb D (KB2 w sc B) (mkT l) s) : Means (model lawP w) R (trB A I) [] (gF p pF A I) p0 [] s :=
  means_of (V := mkV w h₁ os) (o := fun ts as => tb w sc p pF p0 A B I l ts as) (m := 4000) (ce := ceTB) O (fun _ _ => by unfold tb lawEv; rfl) h RP
/-- what a turn's first half leaves -/
noncomputable abbrev RA (w : World) (h₁ : Heap) (os : OsState) (hb : Heap) (D : List Addr) (sc co : Obj) (A U : Nat → Nat) (I r : Nat) : Result → Shared → Prop := fun r' s' => r' = .ok (.ret .none) ∧ ∃ B U2 q, q.t + r ≤ 100 ∧ Rep (mkV w h₁ os) hb D (KB2 w sc B) (mkT (stX w A U B U2 I co q r)) s'
/-- a turn's first half, then the second -/
theorem turn_of (O : (mkV w h₁ os).Ok) {R : Result → Shared → Prop} (hR : ∀ e s', ¬ R (.error e) s') {pF p0 : Pos} {s : Shared} {r : Nat}
    (hA : Means (model lawP w) (RA w h₁ os hb D sc (listO d2 vs2 n2 sl2) A U I r) (trA A I) [] (gF p pF A I) p0 [] s)
    (ih : ∀ B U2 (q : LP) p0 s, q.t + r ≤ 100 → Rep (mkV w h₁ os) hb D (KB2 w sc B) (mkT (stX w A U B U2 I (listO d2 vs2 n2 sl2) q r)) s → wpCode (model lawP w) (gF p pF A I) R p0 s) :
    wpCode (model lawP w) (gF p pF A I) R p0 s := by
  have hc : (gF p pF A I).code = .forLoop forT (.ref (I + 268)) (forB0.take 2 ++ [.If (.BoolOp .Or [.Compare ifP.2.1.1 [ifP.2.1.2.1] [ifP.2.1.2.2.1] ifP.2.1.2.2.2, .Compare ifP.2.2.1.1 [ifP.2.2.1.2.1] [ifP.2.2.1.2.2.1] ifP.2.2.1.2.2.2] ifP.2.2.2.1) ifP.2.2.2.2 [] ifP.1]) [] (lawEnv A) := by
    rw [← for_shape]; rfl
  have hB : ∀ p' s', RA w h₁ os hb D sc (listO d2 vs2 n2 sl2) A U I r (.ok (.ret .none)) s' → Means (model lawP w) R (trB A I) [] (gF p pF A I) p' [] s' := by
    rintro p' s' ⟨_, B, U2, q, hq, R'⟩
    exact means_tb O (fun ts as => good_tb (fun p2 s2 R2 => ih B U2 q p2 s2 hq R2)) R'
  have hE : ∀ e s', ¬ RA w h₁ os hb D sc (listO d2 vs2 n2 sl2) A U I r (.error e) s' := fun e s' h => by cases h.1
  unfold trA at hA
  unfold trB at hB
  exact @for_sound lawP w (gF p pF A I) s (RA w h₁ os hb D sc (listO d2 vs2 n2 sl2) A U I r) R forT (.ref (I + 268)) (forB0.take 2) ifP.2.2.2.2 ifP.1 ifP.2.1.2.2.2 ifP.2.2.1.2.2.2 ifP.2.2.2.1 p0 ifP.2.1.1 ifP.2.1.2.2.1 ifP.2.2.1.1 ifP.2.2.1.2.2.1 ifP.2.1.2.1 ifP.2.2.1.2.1 (lawEnv A) hc hA hE hR hB
theorem rl_of {B U2 : Nat → Nat} {q : LP} {co : Obj} {s' : Shared} (R : Rep (mkV w h₁ os) hb D (KB2 w sc B) (mkT (stX w A U B U2 I co q 0)) s') : RL w h₁ os hb D sc co A U I (.ok .next) s' := by
  unfold RL
  exact ⟨rfl, B, U2, q, R⟩
theorem means_te (O : (mkV w h₁ os).Ok) {pF p0 : Pos} {B U2 : Nat → Nat} {q : LP} {s : Shared} (RP : Rep (mkV w h₁ os) hb D (KB2 w sc B) (mkT (stX w A U B U2 I (listO d2 vs2 n2 sl2) q 0)) s) :
    Means (model lawP w) (RL w h₁ os hb D sc (listO d2 vs2 n2 sl2) A U I) (D1.den (cdFor A I)) [] (gF p pF A I) p0 [] s := by
  have h := fun ts as => te_eq w sc d2 vs2 n2 sl2 p pF p0 A U B U2 I (.int (.ofNat q.t) q.tt) q.c q.k1 q.k2 q.k3 q.k4 q.vt q.ve q.vc q.vd ts as
  have H : ∀ (p2 : Pos) s2, Rep (mkV w h₁ os) hb D (KB2 w sc B) (mkT (stX w A U B U2 I (listO d2 vs2 n2 sl2) q 0)) s2 → wpCode (model (mkV w h₁ os).prog (mkV w h₁ os).w) ((gF p pF A I).goto (.block [] (lawEnv A))) (RL w h₁ os hb D sc (listO d2 vs2 n2 sl2) A U I) p2 s2 := by
    intro p2 s2 R2
    have hR : RL w h₁ os hb D sc (listO d2 vs2 n2 sl2) A U I (.ok .next) s2 := rl_of R2
    exact block_nil (g := (gF p pF A I).goto (.block [] (lawEnv A))) rfl hR
  have ho : ∀ ts as, te w sc p pF p0 A B I (stX w A U B U2 I (listO d2 vs2 n2 sl2) q 0) ts as = ev D1 (S0 (mkV w h₁ os)) (S1 (mkV w h₁ os)) (mkV w h₁ os).TA alt 30000 (D1.den (cdFor A I)) [] (gF p pF A I) p0 [] (KB2 w sc B) (mkT (stX w A U B U2 I (listO d2 vs2 n2 sl2) q 0)) 3000 ts as ceTE [] := by intro ts as; unfold te lawEv; rfl
  generalize te w sc p pF p0 A B I (stX w A U B U2 I (listO d2 vs2 n2 sl2) q 0) = o at h ho
  exact means_of (V := mkV w h₁ os) O ho (fun ts as => agn_good (h ts as) H) RP
/-- what goes on behind the answer of _law_next -/
noncomputable abbrev Fx (w : World) (A : Nat → Nat) (kt : KT) (t : Nat) (ce : List Nat) (v tt vt : Nat) (ts2 as2 : Nat → Nat) : Go := fun k L g p K _ T m acc => ev D1 (SW w) (SW' w) lawTA alt 30000 (k (.ok (.ret (.int (.ofNat v) vt)))) L g p K kt (T.put 40 3 (A 3 + 268, feedO A (.int (.ofNat t) tt))) m ts2 as2 ce acc
theorem ta_core (O : (mkV w h₁ os).Ok) (hI : IntsV vs2.toList) (hl : vs2.toList.length ≤ 100) {o : Out} {many t tt mt : Nat} {g0 : PySem.Ctx} {kt0 : KT} {R : Result → Shared → Prop} {ceF : Nat → List Nat} (hm : 0 < many) (ht : t ≤ 200) (hTA : ∀ a ∈ lawTA, ∃ x, kt0.get a = some x)
    (hP : ∀ p v m tx, nxE w kt0 g0 p A (listO d2 vs2 n2 sl2) t tt many mt v (xsP vs2 t m tx many v) ceNP)
    (hN : ∀ p v m tx, nxE w kt0 g0 p A (listO d2 vs2 n2 sl2) t tt many mt v (xsN vs2 t m tx many v) ceNP)
    (hB : ∀ p v, nxE w kt0 g0 p A (listO d2 vs2 n2 sl2) t tt many mt v (xsB vs2 t many v) ceNB)
    (hc : cutL (feedE A (listO d2 vs2 n2 sl2) (.int (.ofNat t) tt)) o = some (nextC A many mt, none, g0, kt0, (feedE A (listO d2 vs2 n2 sl2) (.int (.ofNat t) tt)).map fun e => some e.2))
    (hG : ∀ (x : NV many) ts2 as2, Good (mkV w h₁ os) R hb D (res (Fx w A kt0 (t + 1) (ceF x.v) x.v x.tt x.vt ts2 as2) o)) : Good (mkV w h₁ os) R hb D o :=
  cut_goodX (V := mkV w h₁ os) (ι := NV many) ⟨0, hm, 0, 0⟩ hc O (alt_ok _ _ _) (n := 30000) (fun x => ceF x.v) (fun _ => kt0)
    (fun x T _ => T.put 40 3 (A 3 + 268, feedO A (.int (.ofNat (t + 1)) x.tt))) (fun m => m) (fun x => .ok (.ret (.int (.ofNat x.v) x.vt))) (fun x ts2 as2 => hG x ts2 as2)
    (fun T m p R s hT RT k => next_ok O hTA hI hl ht hm (hP p) (hN p) (hB p) hT RT k)
theorem means_ta2 (O : (mkV w h₁ os).Ok) (hI : IntsV vs2.toList) (hl : vs2.toList.length ≤ 100) {pF p0 : Pos} {r : Nat} {B U2 : Nat → Nat} {q : LP} {s : Shared} (hq : q.t + (r + 1) ≤ 100)
    (RP : Rep (mkV w h₁ os) hb D (KB2 w sc B) (mkT (stX w A U B U2 I (listO d2 vs2 n2 sl2) q (r + 1))) s) :
    Means (model lawP w) (RA w h₁ os hb D sc (listO d2 vs2 n2 sl2) A U I r) (trA A I) [] (gF p pF A I) p0 [] s := by
  have hc := fun ts as => ta2_cut w sc d2 vs2 n2 sl2 p pF p0 A U B U2 I (.int (.ofNat q.t) q.tt) q.c r q.k1 q.k2 q.k3 q.k4 q.vt q.ve q.vc q.vd ts as
  have ht := fun ts as (x : NV 46) ts2 as2 => tb2_all w sc d2 vs2 n2 sl2 p pF p0 A U B U2 I (.int (.ofNat q.t) q.tt) q.c r q.k1 q.k2 q.k3 q.k4 q.vt q.ve q.vc q.vd ts as (q.t + 1) x.tt x.vt ts2 as2 x.v x.hv
  unfold tb2 lawEv at ht
  have ho : ∀ ts as, ta2 w sc p pF p0 A B I (stX w A U B U2 I (listO d2 vs2 n2 sl2) q (r + 1)) ts as = ev D1 (S0 (mkV w h₁ os)) (S1 (mkV w h₁ os)) (mkV w h₁ os).TA alt 30000 (trA A I) [] (gF p pF A I) p0 [] (KB2 w sc B) (mkT (stX w A U B U2 I (listO d2 vs2 n2 sl2) q (r + 1))) 3000 ts as ceA2 [] := by intro ts as; unfold ta2 lawEv; rfl
  generalize ta2 w sc p pF p0 A B I (stX w A U B U2 I (listO d2 vs2 n2 sl2) q (r + 1)) = o at hc ht ho
  refine means_of (V := mkV w h₁ os) O ho (fun ts as => ?_) RP
  have hc := hc ts as
  have ht := ht ts as
  generalize o ts as = o at hc ht ⊢
  refine ta_core O hI hl (ceF := fun v => ceL2.getD v []) (by decide) (by omega) (KB2_ta w sc B) (fun p' v m tx ts as => nx_2P w sc d2 vs2 n2 sl2 p pF p' A B I q.t q.tt _ v m tx ts as) (fun p' v m tx ts as => nx_2N w sc d2 vs2 n2 sl2 p pF p' A B I q.t q.tt _ v m tx ts as)
    (fun p' v ts as => nx_2B w sc d2 vs2 n2 sl2 p pF p' A B I q.t q.tt _ v 0 0 ts as) hc ?_
  intro x ts2 as2
  have h := ht x ts2 as2
  clear ht hc
  generalize res _ o = o2 at h ⊢
  exact fin_good h fun s' R' => ⟨rfl, B, U2, ⟨q.c + 1, q.t + 1, x.tt, q.k1, q.k2, q.k3, q.k4, _, _, _, _⟩, by show q.t + 1 + r ≤ 100; omega, R'⟩
theorem loop2 (O : (mkV w h₁ os).Ok) (hI : IntsV vs2.toList) (hl : vs2.toList.length ≤ 100) (r : Nat) : ∀ (B U2 : Nat → Nat) (q : LP) (pF p0 : Pos) (s : Shared), q.t + r ≤ 100 →
    Rep (mkV w h₁ os) hb D (KB2 w sc B) (mkT (stX w A U B U2 I (listO d2 vs2 n2 sl2) q r)) s → wpCode (model lawP w) (gF p pF A I) (RL w h₁ os hb D sc (listO d2 vs2 n2 sl2) A U I) p0 s := by
  induction r with
  | zero =>
    intro B U2 q pF p0 s hq RP
    have H := means_te O (p := p) (pF := pF) (p0 := p0) RP
    rw [← D_eq] at H
    exact entry_sound (c := cdFor A I) rfl H
  | succ r ih =>
    intro B U2 q pF p0 s hq RP
    exact turn_of (r := r) O (fun e s' h => by cases h.1) (means_ta2 O hI hl hq RP) (fun B U2 q p0 s hq R => ih B U2 q pF p0 s hq R)
end
end Mine
end
section
open PySem PySem.W PySem.W.X
open Sem (wp)
set_option maxRecDepth 1000000
namespace Mine
section
variable {w : World} {h₁ : Heap} {os : OsState} {hb : Heap} {D : List Addr} {sc : Obj} {d2 : Option Addr} {vs2 : Array Value} {n2 : Nat} {sl2 : Array (Option Value)} {p : Pos} {A U : Nat → Nat} {I : Nat}
theorem means_ta1 (O : (mkV w h₁ os).Ok) (hI : IntsV vs2.toList) (hl : vs2.toList.length ≤ 100) {pF p0 : Pos} {t tt c r : Nat} {s : Shared} (hq : t + (r + 1) ≤ 100)
    (RP : Rep (mkV w h₁ os) hb D (KB w sc) (mkT (stL1 w.params A U I (listO d2 vs2 n2 sl2) (.int (.ofNat t) tt) c (r + 1))) s) :
    Means (model lawP w) (RA w h₁ os hb D sc (listO d2 vs2 n2 sl2) A U I r) (trA A I) [] (gF p pF A I) p0 [] s := by
  have hc := fun ts as => ta1_cut w sc d2 vs2 n2 sl2 p pF p0 A U I (.int (.ofNat t) tt) c r ts as
  have ht := fun ts as (x : NV 46) ts2 as2 => tb1_all w sc d2 vs2 n2 sl2 p pF p0 A U I (.int (.ofNat t) tt) c r ts as (t + 1) x.tt x.vt ts2 as2 x.v x.hv
  unfold tb1 lawEv at ht
  have ho : ∀ ts as, ta1 w sc (listO d2 vs2 n2 sl2) p pF p0 A U I (.int (.ofNat t) tt) c r ts as = ev D1 (S0 (mkV w h₁ os)) (S1 (mkV w h₁ os)) (mkV w h₁ os).TA alt 30000 (trA A I) [] (gF p pF A I) p0 [] (KB w sc) (mkT (stL1 w.params A U I (listO d2 vs2 n2 sl2) (.int (.ofNat t) tt) c (r + 1))) 1000 ts as ceA1 [] := by intro ts as; unfold ta1 lawEv; rfl
  generalize ta1 w sc (listO d2 vs2 n2 sl2) p pF p0 A U I (.int (.ofNat t) tt) c r = o at hc ht ho
  refine means_of (V := mkV w h₁ os) O ho (fun ts as => ?_) RP
  have hc := hc ts as
  have ht := ht ts as
  generalize o ts as = o at hc ht ⊢
  refine ta_core O hI hl (ceF := fun v => ceL1.getD v []) (by decide) (by omega) (KB2_ta w sc as) (fun p' v m tx ts as' => nx_2P w sc d2 vs2 n2 sl2 p pF p' A as I t tt _ v m tx ts as') (fun p' v m tx ts as' => nx_2N w sc d2 vs2 n2 sl2 p pF p' A as I t tt _ v m tx ts as')
    (fun p' v ts as' => nx_2B w sc d2 vs2 n2 sl2 p pF p' A as I t tt _ v 0 0 ts as') hc ?_
  intro x ts2 as2
  have h := ht x ts2 as2
  clear ht hc
  generalize res _ o = o2 at h ⊢
  exact fin_good h fun s' R' => ⟨rfl, as, ts, ⟨c + 1, t + 1, x.tt, _, _, _, _, _, _, _, _⟩, by show t + 1 + r ≤ 100; omega, R'⟩
theorem loop1 (O : (mkV w h₁ os).Ok) (hI : IntsV vs2.toList) (hl : vs2.toList.length ≤ 100) {pF p0 : Pos} {t tt c r : Nat} {s : Shared} (hq : t + (r + 1) ≤ 100)
    (RP : Rep (mkV w h₁ os) hb D (KB w sc) (mkT (stL1 w.params A U I (listO d2 vs2 n2 sl2) (.int (.ofNat t) tt) c (r + 1))) s) :
    wpCode (model lawP w) (gF p pF A I) (RL w h₁ os hb D sc (listO d2 vs2 n2 sl2) A U I) p0 s :=
  turn_of (r := r) O (fun e s' h => by cases h.1) (means_ta1 O hI hl hq RP) (fun B U2 q p0 s hq R => loop2 O hI hl r B U2 q pF p0 s hq R)
/-- behind the for statement -/
noncomputable def RS (w : World) (h₁ : Heap) (os : OsState) (hb : Heap) (D : List Addr) (sc co : Obj) (A U : Nat → Nat) : Result → Shared → Prop := fun r s' => r = .ok (.ret .none) ∧ ∃ I B U2 q, Rep (mkV w h₁ os) hb D (KB2 w sc B) (mkT (stX w A U B U2 I co q 0)) s'
theorem rl_inv {co : Obj} {r : Result} {s' : Shared} (h : RL w h₁ os hb D sc co A U I r s') : r = .ok .next ∧ ∃ B U2 q, Rep (mkV w h₁ os) hb D (KB2 w sc B) (mkT (stX w A U B U2 I co q 0)) s' := h
theorem for_core (O : (mkV w h₁ os).Ok) (hI : IntsV vs2.toList) (hl : vs2.toList.length ≤ 100) {o2 : Out} {tt v : Nat} (hv : v < 8)
    (hc : cutL (stL1 w.params A U I (listO d2 vs2 n2 sl2) (.int (.ofNat 1) tt) 0 (v + 1)) o2 = some (cdFor A I, none, gL p A, KB w sc, (stL1 w.params A U I (listO d2 vs2 n2 sl2) (.int (.ofNat 1) tt) 0 (v + 1)).map fun e => some e.2))
    (hf : ∀ B U2 (q : LP) ts3 as3, finL (stX w A U B U2 I (listO d2 vs2 n2 sl2) q 0) (res (fun k L g p K _ _ _ acc => ev D1 (SW w) (SW' w) lawTA alt 30000 (k (.ok .next)) L g p K (KB2 w sc B) (mkT (stX w A U B U2 I (listO d2 vs2 n2 sl2) q 0)) 5000 ts3 as3 [] acc) o2) =
      finR (stX w A U B U2 I (listO d2 vs2 n2 sl2) q 0) (KB2 w sc B) (.ok (.ret .none)) (res (fun k L g p K _ _ _ acc => ev D1 (SW w) (SW' w) lawTA alt 30000 (k (.ok .next)) L g p K (KB2 w sc B) (mkT (stX w A U B U2 I (listO d2 vs2 n2 sl2) q 0)) 5000 ts3 as3 [] acc) o2)) :
    Good (mkV w h₁ os) (RS w h₁ os hb D sc (listO d2 vs2 n2 sl2) A U) hb D o2 := by
  refine cut_goodX (V := mkV w h₁ os) (ι := (Nat → Nat) × (Nat → Nat) × LP) (id, id, ⟨0, 0, 0, 0, 0, 0, 0, .none, .none, .none, .none⟩) hc O (alt_ok _ _ _) (n := 30000) (fun _ => []) (fun x => KB2 w sc x.1)
    (fun x _ _ => mkT (stX w A U x.1 x.2.1 I (listO d2 vs2 n2 sl2) x.2.2 0)) (fun _ => 5000) (fun _ => .ok .next) (fun x ts3 as3 => ?_) (fun T m p' R s hT RT k => ?_)
  · have h := hf x.1 x.2.1 x.2.2 ts3 as3
    clear hf
    change Good (mkV w h₁ os) (RS w h₁ os hb D sc (listO d2 vs2 n2 sl2) A U) hb D (res (fun k L g p K _ _ _ acc => ev D1 (SW w) (SW' w) lawTA alt 30000 (k (.ok .next)) L g p K (KB2 w sc x.1) (mkT (stX w A U x.1 x.2.1 I (listO d2 vs2 n2 sl2) x.2.2 0)) 5000 ts3 as3 [] acc) o2)
    generalize res _ o2 = o3 at h ⊢
    exact fin_good h fun s' R' => ⟨rfl, I, x.1, x.2.1, x.2.2, R'⟩
  · have RT' : Rep (mkV w h₁ os) hb D (KB w sc) (mkT (stL1 w.params A U I (listO d2 vs2 n2 sl2) (.int (.ofNat 1) tt) 0 (v + 1))) s := RT.less (fun _ _ e => e) hT
    have H := loop1 (p := p) (pF := p') (p0 := p') (r := v) O hI hl (by omega) RT'
    refine wpCode_mono (fun r s' hr => ?_) H
    obtain ⟨rfl, B, U2, q, R'⟩ := rl_inv hr
    exact k (B, U2, q) s' R'
theorem means_f (O : (mkV w h₁ os).Ok) (hI : IntsV vs2.toList) (hl : vs2.toList.length ≤ 100) {p0 : Pos} {tt : Nat} {s : Shared}
    (RP : Rep (mkV w h₁ os) hb D (KB w sc) (mkT (stH w.params A U (listO d2 vs2 n2 sl2) (.int (.ofNat 0) tt))) s) :
    Means (model lawP w) (RS w h₁ os hb D sc (listO d2 vs2 n2 sl2) A U) (stT ((lawBody.drop 2).take 1) (lawEnv A)) [] (gL p A) p0 [] s := by
  have hc := fun ts as => f_cut w sc d2 vs2 n2 sl2 p p0 A U ts as (.int (.ofNat 0) tt)
  have hc2 := fun ts as (x : NV 8) ts2 as2 => f_cut_all w sc d2 vs2 n2 sl2 p p0 A U ts as (.int (.ofNat 0) tt) 1 x.tt x.vt ts2 as2 x.v x.hv
  have hf := fun ts as (x : NV 8) ts2 as2 B U2 (q : LP) ts3 as3 => f_fin_all w sc d2 vs2 n2 sl2 p p0 A U ts as (.int (.ofNat 0) tt) 1 x.tt x.vt ts2 as2 B U2 (.int (.ofNat q.t) q.tt) q.c q.k1 q.k2 q.k3 q.k4 q.vt q.ve q.vc q.vd ts3 as3 x.v x.hv
  unfold fc fb lawEv at hf
  unfold fb lawEv at hc2
  have ho : ∀ ts as, fa w sc (listO d2 vs2 n2 sl2) p p0 A U (.int (.ofNat 0) tt) ts as = ev D1 (S0 (mkV w h₁ os)) (S1 (mkV w h₁ os)) (mkV w h₁ os).TA alt 30000 (stT ((lawBody.drop 2).take 1) (lawEnv A)) [] (gL p A) p0 [] (KB w sc) (mkT (stH w.params A U (listO d2 vs2 n2 sl2) (.int (.ofNat 0) tt))) 218 ts as ceFa [] := by intro ts as; unfold fa lawEv; rfl
  generalize fa w sc (listO d2 vs2 n2 sl2) p p0 A U (.int (.ofNat 0) tt) = o at hc hc2 hf ho
  refine means_of (V := mkV w h₁ os) O ho (fun ts as => ?_) RP
  have hc := hc ts as
  have hc2 := hc2 ts as
  have hf := hf ts as
  generalize o ts as = o at hc hc2 hf ⊢
  refine ta_core O hI hl (ceF := fun _ => ceFb) (by decide) (by omega) (KB_ta w sc) (fun p' v m tx ts as' => nx_1P w sc d2 vs2 n2 sl2 p p p' A A 0 0 tt _ v m tx ts as') (fun p' v m tx ts as' => nx_1N w sc d2 vs2 n2 sl2 p p p' A A 0 0 tt _ v m tx ts as')
    (fun p' v ts as' => nx_1B w sc d2 vs2 n2 sl2 p p p' A A 0 0 tt _ v 0 0 ts as') hc ?_
  intro x ts2 as2
  have h2 := hc2 x ts2 as2
  have h3 := hf x ts2 as2
  clear hc hc2 hf
  change Good (mkV w h₁ os) (RS w h₁ os hb D sc (listO d2 vs2 n2 sl2) A U) hb D (res (fun (k : Result → Sem PySem.Fin) (L : List (Value → Sem PySem.Fin)) (g : PySem.Ctx) (p : Pos) (K : List KF) (_ : KT) (T : PT) (m : Nat) (acc : Obl) => ev D1 (SW w) (SW' w) lawTA alt 30000 (k (.ok (.ret (.int (.ofNat x.v) x.vt)))) L g p K (KB w sc) (T.put 40 3 (A 3 + 268, feedO A (.int (.ofNat 1) x.tt))) m ts2 as2 ceFb acc) o)
  generalize res (fun (k : Result → Sem PySem.Fin) (L : List (Value → Sem PySem.Fin)) (g : PySem.Ctx) (p : Pos) (K : List KF) (_ : KT) (T : PT) (m : Nat) (acc : Obl) => ev D1 (SW w) (SW' w) lawTA alt 30000 (k (.ok (.ret (.int (.ofNat x.v) x.vt)))) L g p K (KB w sc) (T.put 40 3 (A 3 + 268, feedO A (.int (.ofNat 1) x.tt))) m ts2 as2 ceFb acc) o = o2 at h2 h3 ⊢
  exact for_core O hI hl x.hv h2 h3
/-- the law's answer -/
noncomputable def RZ (w : World) (h₁ : Heap) (os : OsState) (hb : Heap) (D : List Addr) : Result → Shared → Prop := fun r s' => r = .ok (.ret (.bool true)) ∧ ∃ kt T, Rep (mkV w h₁ os) hb D kt T s'
theorem means_s4 (O : (mkV w h₁ os).Ok) {p0 : Pos} {B U2 : Nat → Nat} {q : LP} {s : Shared} (RP : Rep (mkV w h₁ os) hb D (KB2 w sc B) (mkT (stX w A U B U2 I (listO d2 vs2 n2 sl2) q 0)) s) :
    Means (model lawP w) (RZ w h₁ os hb D) (s4T A) [] (gL p A) p0 [] s := by
  have h := fun ts as => s4_eq w sc d2 vs2 n2 sl2 p p0 A U B U2 I (.int (.ofNat q.t) q.tt) q.c q.k1 q.k2 q.k3 q.k4 q.vt q.ve q.vc q.vd ts as
  have ho : ∀ ts as, s4 w sc p p0 A B (stX w A U B U2 I (listO d2 vs2 n2 sl2) q 0) ts as = ev D1 (S0 (mkV w h₁ os)) (S1 (mkV w h₁ os)) (mkV w h₁ os).TA alt 30000 (s4T A) [] (gL p A) p0 [] (KB2 w sc B) (mkT (stX w A U B U2 I (listO d2 vs2 n2 sl2) q 0)) 6000 ts as ceS4 [] := by intro ts as; unfold s4 lawEv; rfl
  generalize s4 w sc p p0 A B (stX w A U B U2 I (listO d2 vs2 n2 sl2) q 0) = o at h ho
  exact means_of (V := mkV w h₁ os) O ho (fun ts as => fin_good (h ts as) fun s' R' => ⟨rfl, _, _, R'⟩) RP
end
end Mine
end
section
open PySem PySem.W PySem.W.X
open Sem (wp)
set_option maxRecDepth 1000000
namespace Mine
noncomputable def cutM : Out → Option Nat
  | .cut _ _ _ _ _ _ _ _ _ m _ => some m
  | _ => none
section
variable {V : Vx} {R₀ : Result → Shared → Prop} {hb : Heap} {D : List Addr} {al : AltT}
theorem cut_goodM {ι : Type} (x0 : ι) {o : Out} {l : List Ent} {c0 : Code} {hd0 : Option Value} {g0 : PySem.Ctx} {kt0 : KT} (hc : cutL l o = some (c0, hd0, g0, kt0, l.map fun e => some e.2)) {m0 : Nat} (hm : cutM o = some m0) (O : V.Ok) (hal : AltOk V hb D al) {n : Nat} (ce2 : ι → List Nat)
    (ktF : ι → KT) (TF : ι → PT → Nat → PT) (mF : Nat → Nat) (rF : ι → Result)
    (hg : ∀ x ts as, Good V R₀ hb D (res (fun k L g p K _ T m acc => ev D1 (S0 V) (S1 V) V.TA al n (k (rF x)) L g p K (ktF x) (TF x T m) (mF m) ts as (ce2 x) acc) o))
    (contract : ∀ T p R s, (∀ j x, (mkT l).get j = some x → T.get j = some x) → Rep V hb D kt0 T s → (∀ x s', Rep V hb D (ktF x) (TF x T m0) s' → R (rF x) s') → wpCode (model V.prog V.w) (g0.enter c0 hd0 p) R p s) : Good V R₀ hb D o := by
  cases o with
  | cut c hd k L g p K kt T m acc =>
    injection hc with h
    injection h with h1 h
    injection h with h2 h
    injection h with h3 h
    injection h with h4 h5
    injection hm with hm
    subst h1 h2 h3 h4 hm
    have hg : ∀ x ts as, Good V R₀ hb D (ev D1 (S0 V) (S1 V) V.TA al n (k (rF x)) L g p K (ktF x) (TF x T m) (mF m) ts as (ce2 x) acc) := hg
    exact ⟨obl_of n _ _ _ _ _ _ _ _ _ _ _ _ (hg x0 id id), fun s R => contract T p _ s (less_mk h5) R fun x s' R' => ev_sound1 O hal n _ _ _ _ _ _ _ _ _ _ (hg x) s' R'⟩
  | _ => cases hc
end
theorem p1_cutm (w : World) (d : Option Addr) (vs : Array Value) (n : Nat) (sl : Array (Option Value)) (p p0 : Pos) (A U ts as : Nat → Nat) : cutM (p1a w (listO d vs n sl) p p0 A U ts as) = some 2 := by kernel_rfl
noncomputable def sliceO (vs : Array Value) : Obj := listO none (slicePick vs none (some 30) none) 0 #[]
section
variable {w : World} {h₁ : Heap} {os : OsState} {hb : Heap} {D : List Addr} {d : Option Addr} {vs : Array Value} {n : Nat} {sl : Array (Option Value)} {p : Pos} {A U : Nat → Nat}
theorem call_code {prog : Program} {w : World} {g : PySem.Ctx} {p : Pos} {s : Shared} {f : Value} {as : List Value} {Q : Value → Shared → Prop} {R : Result → Shared → Prop} (h : wpAny (model prog w) ((Ag g).under g.code) (call f as) Q (fun _ _ => False) s) (k : ∀ v s', Q v s' → R (.ok (.ret v)) s') :
    wpCode (model prog w) (g.enter (.call f ⟨as, []⟩) none p) R p s := by
  have W := h g p (below_g g).in
  unfold call runValue run at W
  rw [Sem.wp_bind', Sem.wp_call] at W
  refine wpCode_mono (fun r s' hr => ?_) W
  cases r with
  | error e => exact False.elim hr
  | ok f =>
    cases f with
    | ret v => exact k v s' hr
    | next => exact False.elim hr
    | brk => exact False.elim hr
    | cont => exact False.elim hr
theorem slice_ok (O : (mkV w h₁ os).Ok) (hsz : vs.size ≤ sizeLine) {g : PySem.Ctx} {p' : Pos} {ts as : Nat → Nat} {T : PT} {m : Nat} (hm : m < 1000002) {R : Result → Shared → Prop} {s : Shared}
    (hT : ∀ j x, (mkT (sliceE ts as)).get j = some x → T.get j = some x) (RT : Rep (mkV w h₁ os) hb D (KB w (listO d vs n sl)) T s)
    (k : ∀ x s', Rep (mkV w h₁ os) hb D (KB w (listO d vs n sl)) (T.put 40 m (x + 268, sliceO vs)) s' → R (.ok (.ret (.ref (x + 268)))) s') :
    wpCode (model lawP w) (g.enter (.call (.builtin "list.__getitem__") ⟨[.ref 267, .ref (as 0 + 268)], []⟩) none p') R p' s := by
  have k1 : (KB w (listO d vs n sl)).get 267 = some (listO d vs n sl) := by kernel_rfl
  have t1 : (mkT (sliceE ts as)).get 1 = some (as 0 + 268, ⟨.type "slice", none, .fields #[.none, .int (.ofNat 30) (ts 0), .none], #[]⟩) := by kernel_rfl
  have ho := (RT.ktH 267 _ k1).1
  have hos := (RT.TH 1 _ _ (hT 1 _ t1)).1
  have hl : s.heap.IsList 267 vs := ⟨_, ho, rfl, n, rfl⟩
  have hTs : s.TypeIs (.ref (as 0 + 268)) "slice" := ⟨_, hos, rfl⟩
  refine call_code (Q := fun v s' => v = .ref s.heap.objs.size ∧ s' = { s with heap := s.heap.push (sliceO vs) }) ?_ ?_
  · refine wpAny_call_entry slot_list_getitem hl.typeIs entry_list_getitem ?_ (args_list_getitem _ _)
    show wpAny _ _ (Builtin.List.listSubscript? (.ref (as 0 + 268)) >>= _) _ _ s
    unfold Builtin.List.listSubscript?
    refine wpAny_bind (wpAny_bind (wpAny_specialOf hTs slice_no_index ?_))
    simp only [Option.isNone_none, if_true]
    refine wpAny_pure ?_
    show wpAny _ _ (typeOf (.ref (as 0 + 268)) >>= _) _ _ s
    refine wpAny_bind (wpAny_typeOf hTs ?_)
    rw [if_neg (by decide), listSliceParts_eq]
    refine wpAny_bind (wpAny_bind (wpAny_field hos rfl (x := .none) rfl (wpAny_bind (wpAny_listPart .none ?_))))
    rw [if_neg (by decide)]
    refine wpAny_bind (wpAny_field hos rfl (x := .none) rfl (wpAny_bind (wpAny_listPart .none ?_)))
    refine wpAny_bind (wpAny_field hos rfl (x := .int (.ofNat 30) (ts 0)) rfl (wpAny_bind (wpAny_listPart (.int _ _) (wpAny_pure ?_))))
    refine wpAny_bind (m := Builtin.List.listItems (.ref 267)) ?_
    unfold Builtin.List.listItems
    refine wpAny_bind (wpAny_seqItems ho rfl (wpAny_pure ?_))
    refine wpAny_bind (wpAny_of_eq (sliceIndices_raw none (some (.ofNat 30)) none vs.size (by simp)) ?_)
    exact wpAny_bind (wpAny_newObj_type (wpAny_pure ⟨_, rfl, ⟨rfl, rfl⟩⟩) (Nat.le_trans (slicePick_size_le vs none (some 30) none) hsz))
  · rintro v s' ⟨rfl, rfl⟩
    have hN : 268 ≤ s.heap.objs.size := RT.size
    have e : s.heap.objs.size - 268 + 268 = s.heap.objs.size := Nat.sub_add_cancel hN
    have R' := RT.alloc (o := sliceO vs) rfl hm
    rw [← e] at R' ⊢
    exact k _ _ R'
end
end Mine
end
section
open PySem PySem.W PySem.W.X
open Sem (wp)
set_option maxRecDepth 1000000
namespace Mine
section
variable {w : World} {h₁ : Heap} {os : OsState} {hb : Heap} {D : List Addr} {d : Option Addr} {vs : Array Value} {n : Nat} {sl : Array (Option Value)} {p : Pos} {A U : Nat → Nat}
/-- behind the first two statements -/
noncomputable def RQ (w : World) (h₁ : Heap) (os : OsState) (hb : Heap) (D : List Addr) (sc co : Obj) (A : Nat → Nat) : Result → Shared → Prop := fun r s' => r = .ok (.ret .none) ∧ ∃ (f U' : Nat → Nat) (tt : Nat), Rep (mkV w h₁ os) hb D (KB w sc) (mkT (stH w.params (app 1 A f) U' co (.int (.ofNat 0) tt))) s'
theorem means_p1 (O : (mkV w h₁ os).Ok) (hsz : vs.size ≤ sizeLine) {p0 : Pos} {s : Shared} (RP : Rep (mkV w h₁ os) hb D (KB w (listO d vs n sl)) (mkT (St0 w.params A U)) s) :
    Means (model lawP w) (RQ w h₁ os hb D (listO d vs n sl) (sliceO vs) A) (stT (lawBody.take 2) (lawEnv A)) [] (gL p A) p0 [] s := by
  have hc := fun ts as => p1_cut w d vs n sl p p0 A U ts as
  have hm := fun ts as => p1_cutm w d vs n sl p p0 A U ts as
  have hf := fun ts as (x : Nat) ts2 as2 => p1_fin w d none vs (slicePick vs none (some 30) none) n 0 sl #[] p p0 A U ts as x ts2 as2
  unfold p1b lawEv at hf
  have ho : ∀ ts as, p1a w (listO d vs n sl) p p0 A U ts as = ev D1 (S0 (mkV w h₁ os)) (S1 (mkV w h₁ os)) (mkV w h₁ os).TA alt 30000 (stT (lawBody.take 2) (lawEnv A)) [] (gL p A) p0 [] (KB w (listO d vs n sl)) (mkT (St0 w.params A U)) 1 ts as ceP1a [] := by intro ts as; unfold p1a lawEv; rfl
  generalize p1a w (listO d vs n sl) p p0 A U = o at hc hm hf ho
  refine means_of (V := mkV w h₁ os) O ho (fun ts as => ?_) RP
  have hc := hc ts as
  have hm := hm ts as
  have hf := hf ts as
  generalize o ts as = o at hc hm hf ⊢
  refine cut_goodM (V := mkV w h₁ os) (ι := Nat) 0 hc hm O (alt_ok _ _ _) (n := 30000) (fun _ => ceP1b) (fun _ => KB w (listO d vs n sl))
    (fun x T m => T.put 40 m (x + 268, sliceO vs)) (fun m => m + 1) (fun x => .ok (.ret (.ref (x + 268)))) (fun x ts2 as2 => ?_) (fun T p' R s hT RT k => slice_ok O hsz (by decide) hT RT k)
  have h := hf x ts2 as2
  clear hf hc hm
  change Good (mkV w h₁ os) (RQ w h₁ os hb D (listO d vs n sl) (sliceO vs) A) hb D (res (fun k L g p K _ T m acc => ev D1 (SW w) (SW' w) lawTA alt 30000 (k (.ok (.ret (.ref (x + 268))))) L g p K (KB w (listO d vs n sl)) (T.put 40 m (x + 268, listO none (slicePick vs none (some 30) none) 0 #[])) (m + 1) ts2 as2 ceP1b acc) o)
  generalize res _ o = o2 at h ⊢
  exact fin_good h fun s' R' => ⟨rfl, _, _, _, R'⟩
theorem law_func (O : (mkV w h₁ os).Ok) (hsz : vs.size ≤ sizeLine) (hI : IntsV (slicePick vs none (some 30) none).toList) (hl : (slicePick vs none (some 30) none).toList.length ≤ 100) {p0 : Pos} {s : Shared}
    (RP : Rep (mkV w h₁ os) hb D (KB w (listO d vs n sl)) (mkT (St0 w.params A U)) s) : wpCode (model lawP w) (gL p A) (RZ w h₁ os hb D) p0 s := by
  refine func_sound (body := lawBody) (env := lawEnv A) rfl ?_
  simp only [Sem.wp_bind']
  change wp (model lawP w) (gL p A) (execs lawBody (lawEnv A)) _ _ p0 s
  rw [show execs lawBody (lawEnv A) = execs (lawBody.take 2 ++ lawBody.drop 2) (lawEnv A) by rw [List.take_append_drop]]
  refine st_sound (means_p1 O hsz RP) (fun e s' h => by cases h.1) ?_
  rintro p1 s1 ⟨_, f, U', tt, R1⟩
  have eE : lawEnv A = lawEnv (app 1 A f) := rfl
  have eG : gL p A = gL p (app 1 A f) := rfl
  rw [eE, eG]
  rw [show execs (lawBody.drop 2) (lawEnv (app 1 A f)) = execs ((lawBody.drop 2).take 1 ++ lawBody.drop 3) (lawEnv (app 1 A f)) by rw [show lawBody.drop 3 = (lawBody.drop 2).drop 1 by rw [List.drop_drop], List.take_append_drop]]
  refine st_sound (means_f O hI hl R1) (fun e s' h => by cases h.1) ?_
  rintro p2 s2 ⟨_, I, B, U2, q, R2⟩
  have H := means_s4 (p := p) (p0 := p2) O R2
  unfold Means s4T at H
  rw [D1_ex] at H
  simp only [Sem.wp_bind'] at H
  refine Sem.wp_mono _ _ _ (fun fl p3 s3 h => ?_) (fun e p3 s3 h => by cases h.1) p2 s2 H
  cases fl with
  | ret v => exact h
  | next => exact False.elim h
  | brk => exact False.elim h
  | cont => exact False.elim h
noncomputable def e0o (w : World) (sc : Obj) (p p0 : Pos) (ts as : Nat → Nat) : Out := lawEv w 3000 (D1.den cL0) [] (g1 p) p0 [] (KB w sc) (mkT []) 0 ts as ceE0 []
theorem law_wp (O : (mkV w h₁ os).Ok) (hsz : vs.size ≤ sizeLine) (hI : IntsV (slicePick vs none (some 30) none).toList) (hl : (slicePick vs none (some 30) none).toList.length ≤ 100) {p0 : Pos} {s : Shared}
    (RP : Rep (mkV w h₁ os) hb D (KB w (listO d vs n sl)) (mkT []) s) : wpCode (model lawP w) (g1 p) (RZ w h₁ os hb D) p0 s := by
  have h : ∀ ts as, agnL (St0 w.params as ts) (e0o w (listO d vs n sl) p p0 ts as) = agnR (St0 w.params as ts) (.func lawBody (lawEnv as)) (g1 p) (KB w (listO d vs n sl)) (e0o w (listO d vs n sl) p p0 ts as) := by
    intro ts as
    have := e0_eq w (listO d vs n sl) p p0 ts as
    unfold e0o
    exact this
  have ho : ∀ ts as, e0o w (listO d vs n sl) p p0 ts as = ev D1 (S0 (mkV w h₁ os)) (S1 (mkV w h₁ os)) (mkV w h₁ os).TA alt 3000 (D1.den cL0) [] (g1 p) p0 [] (KB w (listO d vs n sl)) (mkT []) 0 ts as ceE0 [] := by intro ts as; unfold e0o lawEv; rfl
  generalize e0o w (listO d vs n sl) p p0 = o at h ho
  have H : Means (model lawP w) (RZ w h₁ os hb D) (D1.den cL0) [] (g1 p) p0 [] s :=
    ev_sound1 (V := mkV w h₁ os) O (alt_ok _ hb D) 3000 (D1.den cL0) [] (g1 p) p0 [] (KB w (listO d vs n sl)) (mkT []) 0 ceE0 [] (fun ts as => ho ts as ▸ agn_good (h ts as) (fun p2 s2 R2 => law_func (p := p) O hsz hI hl R2)) s RP
  rw [← D_eq] at H
  exact entry_sound (c := cL0) rfl H
end
end Mine
end
section
open PySem PySem.W PySem.W.X PySem.Spec PySem.Calls PyProof.Rows
open Sem (wp)
set_option maxRecDepth 100000
namespace Mine
/-- the claim's own context: nothing below -/
def gCaller : PySem.Ctx := ⟨.builtin "claim.caller" {}, none, none, [], none⟩
/-- what an end of the call must be -/
def EndAt (c : ClaimW) (s : Shared) (args : List WData) (vs : List Value) (s₁ : Shared) (kept : Heap → Prop) (r : Result) (t : Shared) : Prop :=
  (c.Ends s args vs s₁ r t ∧ t.os = s.os ∧ kept t.heap) ∧ leftWithCleanup t.gens = false
/-- the thread that the claim starts -/
def startAt (tree : List Value → Sem PySem.Fin) (vs : List Value) : Thread := ⟨tree vs, .builtin "claim.caller" {}, default, []⟩
/-- a run shown at the one context is enough -/
theorem from_one {c : ClaimW} {tree : List Value → Sem PySem.Fin} {w : World} {s : Shared} {free : Addr → Prop} {gens : Prop} {kept : Heap → Prop} (awake : s.asleep) (nog : s.gens = #[])
    (run : ∀ args, c.pre args = true → WData.layableAll args = true → ∀ ord : List DictEntry → List DictEntry, (∀ l, (ord l).Perm l) → ∃ p : List Value × Shared, layAllW c.records (classAt s.heap) w.params ord args s = some p ∧
      wp (model c.prog w) gCaller (tree p.1) (Sem.finPost (model c.prog w) gCaller (EndAt c s args p.1 p.2 kept)) (fun e _ t => EndAt c s args p.1 p.2 kept (.error e) t) default p.2) : c.CallFrom (startAt tree) w free gens kept s := by
  intro args a1 a2 ord a3
  obtain ⟨⟨vs, s₁⟩, lay, go⟩ := run args a1 a2 ord a3
  have kept₁ := layAllW_rest _ _ _ lay
  obtain ⟨n, r, t, t', sched, single, same, ends, os, kp⟩ := wp_halts_full (M := model c.prog w) (Shared.asleep_of_life kept₁.2.2.2 awake) go
  have F := Shared.forget_eq same
  have life : t'.heap.life.seen = s.heap.life.seen := congrArg _ ((runN_life _ _ _ single).trans kept₁.2.2.2)
  have osT : t'.os = s.os := F.2.2.2.1.trans os
  have noOld : gens → ∀ (i : Nat) (x : GenState), s.gens[i]? = some x → t'.gens[i]? = some x := fun _ i x e => by simp [nog] at e
  refine ⟨vs, s₁, lay, n, outcomeOf r, t', sched, ?_, noOld, F.1.symm ▸ kp, life, Shared.rest_eq osT⟩
  cases ClaimW.Ends.congr F.1 ends with
  | inl E =>
    obtain ⟨v, er, b1, b2, b3, b4, b5⟩ := E
    refine .inl ⟨v, ?_, b1, b2, b3, fun b o hb _ hm => b4 b o hb hm, b5⟩
    rw [er]; rfl
  | inr E =>
    obtain ⟨e, ob, cls, er, b1, b2, b3, b4, b5⟩ := E
    refine .inr ⟨e, ob, cls, ?_, b1, b2, b3, b4, fun b o hb _ => b5 b o hb⟩
    rw [er]; rfl
/-- what the call must show -/
def CallAt {α : Type} (q : Program) (loose : List Str) (Yf : Shared → α) (Ya : World → α) (r : RowW) (x : Str) : Prop :=
  ∀ (w : World) (s₀ s₁ : Shared) (mg mb : Str → Option Value), Ground q loose r.records (fun _ _ => True) w s₀ mg mb s₁.heap → Yf s₀ = Ya w → ∀ a : Addr, mg x = some (.ref a) →
    ∀ (args : List WData) (vals : List Value) (as : List Addr), Laid r.records w s₀ s₁ args vals as → r.claim.pre args = true → WData.layableAll args = true → ∀ p0 : Pos,
      wp (model r.prog w) gCaller (PySem.call (.ref a) vals) (fun v _ t => GoodWG r.claim (classAt s₀.heap) (ExcName.means s₀.heap) args s₁ (.ok (.ret v)) t) (fun e _ t => GoodWG r.claim (classAt s₀.heap) (ExcName.means s₀.heap) args s₁ (.error e) t) p0 s₁
/-- the tree of a claim that calls a def by its name -/
noncomputable def byName (x : Str) (vs : List Value) : Sem PySem.Fin := do
  match ← nsGet mainNs x with
  | some f => do ret (← PySem.call f vs)
  | none => unsupported "claim.caller:no-such-global"
/-- a good end is an end that the claim takes -/
theorem end_of_good {r : RowW} {w : World} {s s₁ : Shared} {args : List WData} {vs : List Value} {as : List Addr} {res : Result} {t : Shared} (same : r.claim.same = none) (within : r.claim.within = [])
    (ident : ∀ a b, r.claim.ident a b = true) (L : Laid r.records w s s₁ args vs as) (g : GoodWG r.claim (classAt s.heap) (ExcName.means s.heap) args s₁ res t) {kept : Heap → Prop} (hk : kept t.heap) : EndAt r.claim s args vs s₁ kept res t := by
  have z := g.laid (c := r.claim) same within ident L
  exact ⟨⟨z.1, z.2.1, hk⟩, leftWithCleanup_false_of_bare z.2.2⟩
/-- the head of a law that writes nothing and has no records -/
theorem holds_at {α : Type} {r : OpenRow} {q : Program} {loose : List Str} {Yf : Shared → α} {Ya : World → α} {d : DefRec} {kwd : List (Str × PySem.Expr)} {N : Nat} (left : LeftO r.prog q loose (fun _ => true) Yf Ya N) (hrec : r.records = []) (hwr : r.writes = false)
    (hdef : defOf q r.name = some (d, kwd)) (hthe : r.prog.theDef r.name = some (d.params, d.body, d.scope)) (hkw : kwWritten? d.params.kwonlyargs d.params.kw_defaults = some kwd) (said : r.wellSaid = true)
    (chains : chainsOk q = true) (opens : opensWell r.prog = true) (fr : frees r.toRowW = true) (wn : r.toRowW.claim.within = []) (bare : r.prog.bare) (prom : r.toRowW.promised) (call : CallAt q loose Yf Ya r.toRowW d.name) : r.Holds := by
  obtain ⟨same, un, al, ap, mk⟩ := frees_parts fr
  have nomk : r.toRowW.claim.makers = [] := by
    show r.toRowW.makers.map _ = []
    rw [mk]; rfl
  have top := left.behind (XP := fun _ _ => True) (fun _ _ => trivial) chains
  refine And.intro said (And.intro prom (And.intro ⟨bare, opens, nomk⟩ (And.intro prom.witness fun w => And.intro (top w).1 fun s hs => ?_)))
  obtain ⟨s₀, fenced, nog₀, s₁, ran, asleep, nog, isN, G, y⟩ := (top w).2 s hs
  have nog : s₁.gens = #[] := by simpa using nog
  have facts : RecFacts r.records s₁.heap := recFacts_nil hrec
  have G' := facts.ground G
  refine ⟨s₀, fenced, nog₀, s₁, ran, fun n hn => ?_, facts.1, facts.2.1, from_one (tree := byName r.name) asleep nog ?_⟩
  · have : n = r.name := by
      cases hb : r.pinned <;> rw [hb] at hn <;> simp at hn
      exact hn
    rw [this]
    exact pinned_of_view isN G hdef hthe hkw
  intro args pre lay ord perm
  cases e : layAllW r.toRowW.claim.records (classAt s₁.heap) w.params ord args s₁ with
  | none =>
    have some := layAllW_isSome (P := w.params) (ord := ord) G'.has args r.args s₁ (pre_splitW pre).1
    rw [show layAllW r.records (classAt s₁.heap) w.params ord args s₁ = none from e] at some
    cases some
  | some p =>
    obtain ⟨vs, s₂⟩ := p
    refine ⟨_, rfl, ?_⟩
    have keeps := layAllW_keeps _ _ _ e
    have rest := layAllW_rest _ _ _ e
    obtain ⟨as, reads, inn, olds⟩ := reads_layAllW perm _ _ _ e lay s₂.heap (fun _ _ e => e)
    have L : Laid r.records w s₁ s₂ args vs as := ⟨⟨ord, perm, e⟩, reads, inn, olds, keeps, by rw [rest.1, nog], rest.2.2.1⟩
    have G₂ := G'.keeps (fun _ _ _ _ _ => trivial) keeps
    obtain ⟨a, _, _, _, _, _, _, named, _⟩ := G₂.fn hdef
    have ident := ident_freeW (r := r.toRowW) un al ap
    have fin : ∀ {res t}, GoodWG r.toRowW.claim (classAt s₁.heap) (ExcName.means s₁.heap) args s₂ res t → EndAt r.toRowW.claim s₁ args vs s₂ (fun h => r.writes = true → namesKept r.toRowW.claim.prog r.keeps s₁.heap h ∧ ∀ x ∈ r.toRowW.claim.records, ∀ a, classAt s₁.heap x.1 = some a → recordClass h a x.1 (x.2.map (·.1)) = true) res t :=
      fun g => end_of_good same wn ident L g fun yes => by rw [hwr] at yes; cases yes
    show wp (model r.prog w) gCaller (nsGet mainNs r.name >>= _) _ _ default s₂
    rw [Sem.wp_bind']
    have look : wpAny (model r.prog w) callerA (nsGet mainNs r.name) (fun v t => v = some (.ref a) ∧ t = s₂) (fun _ _ => False) s₂ := wpAny_nsGet G₂.T.g ⟨named, rfl⟩
    refine Sem.wp_mono _ _ _ ?_ (fun _ _ _ no => no.elim) default s₂ (look gCaller default caller_in)
    rintro v p t ⟨rfl, rfl⟩
    show wp (model r.prog w) gCaller (PySem.call (.ref a) vs >>= fun v => ret v) _ _ p _
    rw [Sem.wp_bind']
    exact Sem.wp_mono _ _ _ (fun v p t g => fin g) (fun v p t g => fin g) p _ (call w s₁ _ _ _ G₂ y a (defOf_name hdef ▸ named) args vs as L pre lay p)
end Mine
end
section
open PySem PySem.W PySem.W.X PyProof.Rows
open Sem (wp)
set_option maxRecDepth 1000000
namespace Mine
noncomputable def objAt (w : World) (a : Nat) : Obj := ((K0 w).get a).getD default
noncomputable def fldAt (w : World) (a : Nat) : Array Value := match (objAt w a).data with | .fields vs => vs | _ => #[]
theorem tab_at {w : World} {h : Heap} (H : KT.Holds h 1 0 (K0 w)) (c P : Nat) (e1 : (K0 w).get c = some (objAt w c)) (e2 : objAt w c = { objAt w c with cls := .type "code", data := .fields (fldAt w c) }) (e3 : (fldAt w c)[11]? = some (.ref P)) (e4 : (K0 w).get P = some (tableObj #[])) :
    ∃ c ps vs more, h.TableAt c P ps ∧ h.get? P = some (tableObj vs) ∧ vs = ps ++ more := by
  obtain ⟨c', T⟩ := table_kt H e1 e2 e3 e4
  exact ⟨c', #[], #[], #[], T, T.2, rfl⟩
theorem tabs0 {w : World} {h : Heap} (H : KT.Holds h 1 0 (K0 w)) : ∀ a ∈ lawTA, ∃ c ps vs more, h.TableAt c a ps ∧ h.get? a = some (tableObj vs) ∧ vs = ps ++ more :=
  all_cons (tab_at H 232 228 (by kernel_rfl) (by kernel_rfl) (by kernel_rfl) (by kernel_rfl)) (all_cons (tab_at H 239 235 (by kernel_rfl) (by kernel_rfl) (by kernel_rfl) (by kernel_rfl)) (all_cons (tab_at H 246 242 (by kernel_rfl) (by kernel_rfl) (by kernel_rfl) (by kernel_rfl)) all_nil))
theorem rep0 {w : World} {s : Shared} {vs : Array Value} (H : KT.Holds s.heap 1 0 (K0 w)) (h267 : s.heap.get? 267 = some (listO none vs 0 #[])) (hsz : s.heap.objs.size = 268) (hg : s.gens = #[]) :
    Rep (mkV w s.heap s.os) s.heap [] (KB w (listO none vs 0 #[])) (mkT []) s := by
  refine ⟨Nat.le_of_eq hsz.symm, Nat.le_refl _, fun a o e => ?_, fun j b o e => (by cases e), fun i j b o o' e _ => (by cases e), fun b o e _ _ => e, fun b o e _ => e, tabs0 H, hg, rfl⟩
  have g : s.heap.get? a = some o := by
    unfold KB at e
    rw [kt_put (by decide)] at e
    by_cases q : a = 267
    · rw [if_pos q] at e
      cases e
      rw [q]; exact h267
    · rw [if_neg q] at e
      have := KT.Holds.get H e
      rw [Nat.one_mul, Nat.add_zero] at this
      exact this
  exact ⟨g, by have := Heap.lt_size g; rw [hsz] at this; exact this⟩
theorem ok0 {w : World} {h : Heap} {os : OsState} (hsz : h.objs.size = 268) : (mkV w h os).Ok := ⟨hsz, Nat.le_refl _, all_cons (show 228 < 268 by decide) (all_cons (show 235 < 268 by decide) (all_cons (show 242 < 268 by decide) all_nil))⟩
theorem oldK_of {w : World} {h₁ hb : Heap} {os : OsState} {D : List Addr} {kt : KT} {T : PT} {s : Shared} (R : Rep (mkV w h₁ os) hb D kt T s) : OldK h₁ s.heap := by
  have key : ∀ b o, h₁.get? b = some o → asItWas h₁ s.heap b o ∧ ∃ o', s.heap.get? b = some o' := by
    intro b o e
    by_cases hb : b ∈ lawTA
    · obtain ⟨c, ps, vs, more, ht, hv, he⟩ := R.tabs b hb
      have e0 : o = { cls := .none, data := .fields ps } := Option.some.inj (e.symm.trans ht.2)
      subst e0
      refine ⟨.inr (.inl ⟨ht.isCodeTable, rfl, ps, more, rfl, ?_⟩), _, hv⟩
      rw [hv, he]; rfl
    · have := R.keep₁ b o e hb
      exact ⟨.inl this, o, this⟩
  exact ⟨fun b o e => (key b o e).1, fun b o e => (key b o e).2⟩
theorem pick_ints {vs : Array Value} {lo hi st : Option Int} (hI : IntsV vs.toList) : IntsV (slicePick vs lo hi st).toList := by
  intro i x hx
  have hm := List.mem_of_getElem? hx
  unfold slicePick at hm
  simp only [List.mem_filterMap] at hm
  obtain ⟨j, _, hj⟩ := hm
  exact hI j x (by rw [Array.getElem?_toList]; exact hj)
theorem pick_len {vs : Array Value} {lo hi st : Option Int} (h : vs.size ≤ 63) : (slicePick vs lo hi st).toList.length ≤ 100 := by
  have := slicePick_size_le vs lo hi st
  rw [Array.length_toList]
  omega
/-- the law's call, at the claim's own context -/
theorem law_call {w : World} {s : Shared} {vs : Array Value} {c : ClaimW} {cl : Str → Option Addr} {mean : ExcName → Option Value} {args : List WData} (H : KT.Holds s.heap 1 0 (K0 w)) (h267 : s.heap.get? 267 = some (listO none vs 0 #[])) (hsz : s.heap.objs.size = 268) (hg : s.gens = #[])
    (hv : vs.size ≤ 63) (hI : IntsV vs.toList) (hr : ∀ cls, c.raises args cls = false) (hp : c.post args (.bool true) args = true) (p0 : Pos) :
    wp (model lawP w) gCaller (PySem.call (.ref 266) [.ref 267]) (fun v _ s' => GoodWG c cl mean args s (.ok (.ret v)) s') (fun e _ s' => GoodWG c cl mean args s (.error e) s') p0 s := by
  have L := law_wp (p := p0) (p0 := p0) (ok0 (w := w) (os := s.os) hsz) (d := none) (n := 0) (sl := #[]) (vs := vs) (hb := s.heap) (D := []) (Nat.le_trans hv (by decide)) (pick_ints hI) (pick_len hv) (rep0 H h267 hsz hg)
  unfold PySem.call runValue run
  rw [Sem.wp_bind', Sem.wp_call]
  refine wpCode_mono (fun r s' hr' => ?_) L
  have hz : r = .ok (.ret (.bool true)) ∧ ∃ kt T, Rep (mkV w s.heap s.os) s.heap [] kt T s' := hr'
  obtain ⟨rfl, kt, T, R⟩ := hz
  show GoodWG c cl mean args s (.ok (.ret (.bool true))) s'
  refine ⟨.inl ⟨_, _, [], rfl, hr, ReadsW.bool true, hp, fun _ => ⟨List.nodup_nil, fun _ hm => (nomatch hm)⟩⟩, oldK_of R, R.os, ?_⟩
  rw [R.gens]
  exact AllBare.empty
end Mine
end
section
open PySem PySem.W PySem.W.X
set_option maxRecDepth 100000
namespace Mine
noncomputable def keepZ : List Nat := [1, 3, 4, 5, 6, 7, 8, 9, 10, 11, 12, 13, 14, 15, 16, 17, 18, 19, 20, 21, 22, 23, 24, 25, 26, 27, 28, 29, 31, 33, 34, 35, 36, 37, 38, 39, 40]
noncomputable def lawQ : Program := view PySem.Challenge.rw_pq0140_01.row.prog keepZ
noncomputable def lawR : Program := view lawT keepZ
theorem lawQ_eq : lawQ = lawR := by
  unfold lawQ lawR
  rw [lawT_eq]
noncomputable def keyZ : List Addr := [0, 1, 2, 3, 4, 5, 6, 7, 8, 9, 10, 11, 12, 13, 14, 15, 18, 23, 24, 25, 26, 27, 28, 29, 30, 31, 32, 33, 34, 35, 38, 39, 40, 41, 42, 43, 44, 45, 46, 47, 48, 49, 50, 51, 52, 53, 54, 55, 56, 57, 58, 59, 60, 61, 62, 63, 64, 65, 66, 67, 68, 69, 70, 71, 72, 73, 74, 75, 76, 77, 78, 79, 80, 81, 82, 83, 84, 85, 86, 87, 88, 89, 90, 91, 92, 93, 94, 95, 96, 97, 98, 99, 100, 101, 102, 103, 104, 105, 106, 107, 108, 109, 110, 111, 112, 113, 114, 115, 116, 117, 118, 119, 120, 121, 122, 123, 124, 125, 126, 127, 128, 129, 130, 131, 132, 133, 134, 135, 136, 137, 138, 139, 140, 141, 142, 143, 144, 145, 146, 147, 148, 149, 150, 151, 152, 153, 154, 155, 156, 157, 158, 159, 160, 161, 162, 163, 164, 165, 166, 167, 168, 169, 170, 171, 172, 173, 174, 175, 176, 177, 178, 179, 180, 181, 182, 183, 184, 185, 186, 187, 188, 189, 190, 198, 199, 200, 201, 202, 203, 204, 205, 206, 207, 208, 209, 210, 213, 214, 215, 216, 217, 218, 219, 220, 221, 222, 223, 224, 225, 226, 227, 228, 229, 230, 231, 232, 233, 234, 235, 236, 237, 238, 239, 240, 241, 242, 243, 244, 245, 246, 247, 248, 249, 250, 251, 252, 253, 254, 255, 256, 257, 258, 259, 260, 261, 262, 263, 264, 265, 266]
noncomputable abbrev lawLo : List Str := [⟨#[66, 97, 115, 105, 99, 69, 114, 114, 111, 114]⟩]
theorem keyZ_eq : ∀ P, keyZ = (hp0 P).map (·.1) := fun P => by kernel_rfl
theorem hk0_eq : ∀ P, KT.of (hp0 P) = hk0 P := fun P => by kernel_rfl
theorem bootT : opening lawT = plainProg lawT.main.scope.names := by kernel_rfl
theorem fenceT : ∀ s, fenceModules? lawT s = some s := fun s => by kernel_rfl
noncomputable abbrev gs0 : Array GenState := Array.mk []
noncomputable def annZ : Option Value := some (.ref 6)
theorem sizeT (w : World) : ((boot_heap w.params).isNs mainGlobals && gs0.size == 0, (boot_heap w.params).objs.size, (boot_heap w.params).nsMap mainGlobals "__annotations__") = (true, 11, annZ) := by kernel_rfl
set_option maxHeartbeats 0 in
theorem runT (w : World) (os : OsState) : PySem.W.Fast.tw14082659384304107361 PySem.W.Fast.tw14364793385576792824 lawT w 11 annZ 3210 ⟨boot_heap w.params, gs0, boot_drawn, boot_toks, os⟩ (topStub lawT) = some ⟨heapF w.params, gs0, boot_drawn, 593, os⟩ := by
  kernel_rfl
set_option maxHeartbeats 0 in
theorem looksT (w : World) (os : OsState) : ((staticsOk (PySem.W.Fast.tw5923862056798008813 lawT.main.body) (boot_heap w.params) (heapF w.params) && namesBound lawT (heapF w.params) && gensDone ⟨heapF w.params, gs0, boot_drawn, 593, os⟩ && laidKept (boot_heap w.params) (heapF w.params)),
    PySem.W.Fast.tw4187177175401517315 lawR lawLo (PySem.W.Fast.tw5923862056798008813 lawT.main.body) (fun _ => true) true ⟨heapF w.params, gs0, boot_drawn, 593, os⟩, obsZ keyZ ⟨heapF w.params, gs0, boot_drawn, 593, os⟩) = (true, openGood lawR lawLo, valZ hp0 267 593 w) := by
  kernel_rfl
theorem left1 : LeftO lawT lawR lawLo (fun _ => true) (obsZ keyZ) (valZ hp0 267 593) 3210 :=
  LeftO.of_pieces (boot_open bootT (by rfl) fenceT) sizeT
    (fun w os => by
      rw [PySem.W.Fast.te14082659384304107361, PySem.W.Fast.te14364793385576792824]
      exact runT w os) (by rfl)
    (fun w => funext fun os => by
      rw [PySem.W.Fast.te4187177175401517315, PySem.W.Fast.te5923862056798008813]
      exact looksT w os)
theorem left0 : LeftO PySem.Challenge.rw_pq0140_01.row.prog lawQ lawLo (fun _ => true) (obsZ keyZ) (valZ hp0 267 593) 3210 := by
  rw [lawQ_eq, lawT_eq]
  exact left1
end Mine
end
open PySem PySem.W PySem.W.X PyProof.Rows
open Sem (wp)
set_option maxRecDepth 100000
namespace Mine
theorem ints_vs {h : Heap} : ∀ {ns : List Int} {vs : List Value} {bs : List Addr}, ReadsAll h vs (ns.map PyData.int) bs → IntsV vs ∧ vs.length = ns.length
  | [], _, _, H => by
    cases H
    exact ⟨fun i x e => (by simp at e), rfl⟩
  | n :: ns, _, _, H => by
    rw [List.map_cons] at H
    cases H with
    | cons r rs =>
      obtain ⟨hI, hl⟩ := ints_vs rs
      refine ⟨fun i x e => ?_, by rw [List.length_cons, List.length_cons, hl]⟩
      cases i with
      | zero =>
        cases r
        simp only [List.getElem?_cons_zero, Option.some.injEq] at e
        exact ⟨_, _, e.symm⟩
      | succ i =>
        simp only [List.getElem?_cons_succ] at e
        exact hI i x e
theorem kt_turn {h : Heap} {t t' : KT} (H : KT.Holds h 1 0 t) (e : t = t') : KT.Holds h 1 0 t' := e ▸ H
/-- the law's call from what the head lays -/
theorem fin_law {R : WRecords} {w : World} {s₀ s₁ : Shared} {ns : List Int} {xs : List Value} {as bs : List Addr} {c : ClaimW} {cl : Str → Option Addr} {mean : ExcName → Option Value} {args : List WData} (H : KT.Holds s₁.heap 1 0 (K0 w)) (hg : s₁.gens = #[])
    (hc : ns.length ≤ 63) (hsz : s₁.heap.objs.size = 267 + 1) (hL : s₁.heap.IsList 267 xs.toArray) (ra : ReadsAll s₁.heap xs (ns.map PyData.int) bs) (L : Laid R w s₀ s₁ [ofPy (PyData.list (ns.map PyData.int))] [.ref 267] as)
    (hr : ∀ cls, c.raises args cls = false) (hp : c.post args (.bool true) args = true) (p0 : Pos) :
    wp (model lawP w) gCaller (PySem.call (.ref 266) [.ref 267]) (fun v _ s' => GoodWG c cl mean args s₁ (.ok (.ret v)) s') (fun e _ s' => GoodWG c cl mean args s₁ (.error e) s') p0 s₁ := by
  obtain ⟨hI, hl⟩ := ints_vs ra
  exact law_call H (script_obj L hL) hsz hg (by rw [List.size_toArray, hl]; exact hc) (by rw [List.toList_toArray]; exact hI) hr hp p0
theorem z_gen {K : Params → Frag} {k0 : Params → KT} {ks : List Addr} {n t : Nat} {R : WRecords} {w : World} {s₀ s₁ : Shared} {args : List WData} {vals : List Value} {as : List Addr} (e1 : ∀ P, ks = (K P).map (·.1)) (e2 : ∀ P, KT.of (K P) = k0 P)
    (y : obsZ ks s₀ = valZ K n t w) (L : Laid R w s₀ s₁ args vals as) : (K w.params).In s₁.heap ∧ KT.Holds s₁.heap 1 0 (k0 w.params) ∧ s₀.heap.objs.size = n := by
  have F := z_facts e1 y
  have Z : KT.Holds s₀.heap 1 0 (KT.of (K w.params)) := holds_of F.1
  rw [e2 w.params] at Z
  exact And.intro (InK.keeps w _ _ F.2.1 L.keeps) (And.intro (KT.Holds.keeps L.keeps Z) F.2.2.1)
theorem z_all {k0 : World → KT} {R : WRecords} {w : World} {s₀ s₁ : Shared} {args : List WData} {vals : List Value} {as : List Addr} (e : ∀ w, k0 w = hk0 w.params) (y : obsZ keyZ s₀ = valZ hp0 267 593 w) (L : Laid R w s₀ s₁ args vals as) :
    (hp0 w.params).In s₁.heap ∧ KT.Holds s₁.heap 1 0 (k0 w) ∧ s₀.heap.objs.size = 267 := by
  rw [e]
  exact z_gen keyZ_eq hk0_eq y L
theorem k0_eq (w : World) : K0 w = hk0 w.params := by unfold K0; rfl
noncomputable def lawDR : DefRec × List (Str × PySem.Expr) := match defOf lawQ PySem.Challenge.rw_pq0140_01.row.name with
  | some x => x
  | none => (⟨⟨#[]⟩, lawD.1, [], lawD.2.2, ⟨0, 0, 0, 0⟩⟩, [])
theorem def0 : defOf lawQ PySem.Challenge.rw_pq0140_01.row.name = some (lawDR.1, lawDR.2) := by kernel_rfl
theorem the0 : lawP.theDef PySem.Challenge.rw_pq0140_01.row.name = some (lawDR.1.params, lawDR.1.body, lawDR.1.scope) := by kernel_rfl
theorem kw0 : kwWritten? lawDR.1.params.kwonlyargs lawDR.1.params.kw_defaults = some lawDR.2 := by kernel_rfl
theorem chains0 : chainsOk lawQ = true := by kernel_rfl
theorem opens0 : opensWell lawP = true := by kernel_rfl
theorem frees0 : frees PySem.Challenge.rw_pq0140_01.row.toRowW = true := by kernel_rfl
end Mine
open Mine
set_option maxHeartbeats 0 in
theorem PySem.Challenge.cw_pq0140_01_holds : PySem.Challenge.rw_pq0140_01.Holds := by
  w_on
  refine law0 fun said => ?_
  refine holds_at (r := PySem.Challenge.rw_pq0140_01.row) left0 rfl rfl def0 the0 kw0 said chains0 opens0 frees0 rfl ⟨rfl, rfl, rfl, rfl, rfl, by decide +kernel⟩ ?hw ?hc
  case hw => w_witness2
  intro w s₀ s₁ mg mb G y fa hmg args vals as L hpre hlay p0
  have hg := L.gens
  have hrd := L.reads
  have hwl := L.well
  obtain ⟨KX, ZH, ZN⟩ := z_all k0_eq y L
  have hlo := L.low (by rw [ZN]; decide)
  refine Ground.open G ?_
  intro T B D TE TW
  wrow_args hpre hlay hrd hwl hlo
  obtain ⟨hat, hsz⟩ := script_at L
  rw [ZN] at hat hsz
  subst hat
  x_fa T KX hmg
  refine fin_law ZH hg ?k2 hsz (by assumption) (by assumption) L ?k3 ?k4 p0
  case k2 => omega
  case k3 => intro cls; rfl
  case k4 => exact postW_of (by wrow_shape) (by wtm_val) (by w_fin)
