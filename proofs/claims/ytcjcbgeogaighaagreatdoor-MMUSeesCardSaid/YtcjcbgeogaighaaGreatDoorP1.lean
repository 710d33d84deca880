/- A part (1 of 6) of the proof that the law of MMUSees answers true for every input and that each argument reads afterwards as before. Conditions: those of the card alone (the two tables of math/bits read as the program text lays them). -/
import Derived.OrdersIn
import Derived.Tactics
import Derived.TacticsIn
import Derived.RangeFuncIn
import Derived.RangeFuncCalls
import Derived.Laws.AppendOwn
import Derived.Laws.OwnMore
import Derived.Laws.MakeOwn
import Derived.Laws.CopyRow
import Derived.MapKept
import Derived.Laws.BytesArg
import Derived.Test.YtcjcbgeogaighaaGreatDoorProg
import Derived.KernelRfl
set_option linter.all false
namespace Go.Eng
abbrev Fw (r : Option Nat) : Fence := { Fence.wide with round := r }
inductive Cop where
  | val (v : Value)
  | pick (c a b : Value)
  | alloc (t : TypeId)
  | box (t : TypeId) (v : Value)
  | build (t : TypeId) (parts : Array (Nat × Value))
  | buildSlice (t : TypeId) (len : Nat) (parts : Array (Nat × Value))
  | load (t : TypeId) (a : Value)
  | store (t : TypeId) (a v : Value)
  | nilCheck (v : Value)
  | bin (op : BinOp) (t : TypeId) (cx cy : Bool) (x y : Value)
  | un (op : UnOp) (v : Value)
  | conv (s d : TypeId) (v : Value)
  | mkIface (t : TypeId) (v : Value)
  | mkFunc (fn : Fn) (first captured : Array Value)
  | makeMap (t : TypeId) (r : Option Value)
  | makeSlice (t : TypeId) (l c : Value)
  | slice (t : TypeId) (x : Value) (lo hi mx : Option Value)
  | fieldAddr (t : TypeId) (x : Value) (f : Nat)
  | field (t : TypeId) (x : Value) (f : Nat)
  | indexAddr (t : TypeId) (x i : Value)
  | index (t : TypeId) (x i : Value)
  | lookup (t : TypeId) (m k : Value) (ok : Bool)
  | mapUpdate (t : TypeId) (m k v : Value)
  | mapEntry (t : TypeId) (m k : Value)
  | entryStore (t : TypeId) (m s v : Value)
  | range (t : TypeId) (x : Value)
  | next (it : Value) (s : Bool)
  | entry (it : Value)
  | typeAssert (x : Value) (s d : TypeId) (ok : Bool)
  | extract (t : Value) (i : Nat)
  | callF (f : FuncId) (args : Array Value)
  | callV (f : Value) (args : Array Value)
  | callB (b : Builtin) (argTypes : Array TypeId) (consts : Array Bool) (args : Array Value)
  | callI (recv : Value) (name : String) (args : Array Value)
  | panic (v : Value)
  deriving Inhabited
def isC : Operand → Bool
  | .const _ => true
  | _ => false
def eqG (op : BinOp) (t : TypeId) (cx cy : Bool) (a b : Value) : Sem Unit :=
  eqGuard op t (if cx then .const undef else .func 0) (if cy then .const undef else .func 0) a b
def Cop.sem (ty : TypeId) : Cop → Sem Next
  | .val v => pure (.value v)
  | .pick c a b => do pure (.value (if ← asBool c then a else b))
  | .alloc t => do pure (.value (← Instr.alloc t true (.tuple #[])))
  | .box t v => do pure (.value (← Instr.box t v))
  | .build t ps => do pure (.value (← Instr.build t ps))
  | .buildSlice t n ps => do pure (.value (← Instr.buildSlice t n ps))
  | .load t a => do pure (.value (← Instr.loadAt t a))
  | .store t a v => do Instr.storeAt t a v; pure .skip
  | .nilCheck x =>
    match x with
    | .pointer none | .nilIface | .nilFunc => runtimePanic .nilDeref
    | .func (.method _) _ _ => stuck "engine: nilCheck of a method value"
    | x => pure (.value x)
  | .bin op t cx cy x y => do pure (.value (← (do eqG op t cx cy x y; binOp op t x y)))
  | .un op v => do pure (.value (← Op.unary op v))
  | .conv s d v => do pure (.value (← convert s d v))
  | .mkIface t v => do pure (.value (← Instr.makeInterface t v))
  | .mkFunc fn a b => do pure (.value (← Instr.makeFunc fn a b))
  | .makeMap t r => do pure (.value (← Instr.makeMap t r))
  | .makeSlice t l c => do pure (.value (← Instr.makeSlice t l c))
  | .slice t x lo hi mx => do pure (.value (← Instr.sliceAt t x lo hi mx))
  | .fieldAddr t x f => do pure (.value (← Instr.fieldAt t x f))
  | .field t x f => do pure (.value (← Instr.field t x f))
  | .indexAddr t x i => do pure (.value (← Instr.indexAt t x i))
  | .index t x i => do pure (.value (← Instr.index t x i))
  | .lookup t m k ok => do pure (.value (← Instr.lookup t m k ok))
  | .mapUpdate t m k v => do Instr.mapUpdate t m k v; pure .skip
  | .mapEntry t m k => do pure (.value (← Instr.mapEntry t m k))
  | .entryStore t m s v => do Instr.entryStore t m s v; pure .skip
  | .range t x => do pure (.value (← Instr.range t x))
  | .next it s => do pure (.value (← Instr.next it s ty))
  | .entry it => do pure (.value (← Instr.entry it))
  | .typeAssert x s d ok => do pure (.value (← Instr.typeAssert x s d ok))
  | .extract t i => do pure (.value (← Instr.extract t i))
  | .callF f args => callFunc f args
  | .callV f args => do let d ← Deferred.ofValue f args; invoke d.target d.args
  | .callB b ats cs args => builtin b ats ty cs args
  | .callI recv name args => callMethod recv name args
  | .panic v => do pure (.value (← Instr.panic v))
def close (ρ : Operand → Value) : Op → Option Cop
  | .move x | .assign x => some (.val (ρ x))
  | .pick c a b => some (.pick (ρ c) (ρ a) (ρ b))
  | .alloc t => some (.alloc t)
  | .box t v => some (.box t (ρ v))
  | .build t ps => some (.build t (ps.map fun (i, x) => (i, ρ x)))
  | .buildSlice t n ps => some (.buildSlice t n (ps.map fun (i, x) => (i, ρ x)))
  | .load t a => some (.load t (ρ a))
  | .store t a v => some (.store t (ρ a) (ρ v))
  | .nilCheck x => some (.nilCheck (ρ x))
  | .binOp op t x y _ => some (.bin op t (isC x) (isC y) (ρ x) (ρ y))
  | .unOp op _ v => some (.un op (ρ v))
  | .convert s d v => some (.conv s d (ρ v))
  | .makeInterface t v => some (.mkIface t (ρ v))
  | .makeFunc fn a b => some (.mkFunc fn (a.map ρ) (b.map ρ))
  | .makeMap t r => some (.makeMap t (r.map ρ))
  | .makeSlice t l c => some (.makeSlice t (ρ l) (ρ c))
  | .slice t x lo hi mx => some (.slice t (ρ x) (lo.map ρ) (hi.map ρ) (mx.map ρ))
  | .fieldAddr t x f => some (.fieldAddr t (ρ x) f)
  | .field t x f => some (.field t (ρ x) f)
  | .indexAddr t x i => some (.indexAddr t (ρ x) (ρ i))
  | .index t x i => some (.index t (ρ x) (ρ i))
  | .lookup t m k ok => some (.lookup t (ρ m) (ρ k) ok)
  | .mapUpdate t m k v | .insert t m k v => some (.mapUpdate t (ρ m) (ρ k) (ρ v))
  | .mapEntry t m k => some (.mapEntry t (ρ m) (ρ k))
  | .entryStore t m s v => some (.entryStore t (ρ m) (ρ s) (ρ v))
  | .range t x => some (.range t (ρ x))
  | .next it s => some (.next (ρ it) s)
  | .entry it => some (.entry (ρ it))
  | .typeAssert x s d ok => some (.typeAssert (ρ x) s d ok)
  | .extract t i => some (.extract (ρ t) i)
  | .call c =>
    match c.callee with
    | .value (.func f) => some (.callF f (c.args.map ρ))
    | .value f => some (.callV (ρ f) (c.args.map ρ))
    | .builtin b => some (.callB b c.argTypes (c.args.map fun | .const _ => true | _ => false) (c.args.map ρ))
    | .invoke recv name => some (.callI (ρ recv) name (c.args.map ρ))
  | .panic v => some (.panic (ρ v))
  | _ => none
def upon (P : Program) (K : Value → World → Prop) (E : List PanicEntry → World → Prop) : Result Next → Prop
  | .ok (.value v) w' => K v w'
  | .ok .skip w' => K undef w'
  | .ok (.enter f args) w' => Calls P f args w' fun
      | .returned v, w'' => K v w''
      | .panicked ch, w'' => E ch w''
      | .outgrown, _ => False
  | .ok (.round l f tmps assign body) w' => RoundIn Fence.wide 0 P l f tmps assign body w' fun
      | .returned v, w'' => K v w''
      | .panicked ch, w'' => E ch w''
      | .outgrown, _ => False
  | .halt (.panic v) w' => E [{ v, recovered := false }] w'
  | _ => False
def X0 (P : Program) (c : Cop) (ty : TypeId) (w : World) (K : Value → World → Prop) (E : List PanicEntry → World → Prop) : Prop :=
  upon P K E ((c.sem ty).run P w)
def XG0 (g : Option Value) (want : Bool) (P : Program) (c : Cop) (ty : TypeId) (w : World) (K : Value → World → Prop) (E : List PanicEntry → World → Prop) : Prop :=
  match g with
  | some (.bool b) => if b = want then X0 P c ty w K E else K undef w
  | _ => K undef w
theorem upon_mono {P : Program} {K K' : Value → World → Prop} {E E' : List PanicEntry → World → Prop} (hk : ∀ v w, K v w → K' v w) (he : ∀ c w, E c w → E' c w) :
    ∀ r, upon P K E r → upon P K' E' r := by
  intro r h
  cases r with
  | ok n w =>
    cases n <;> simp only [upon] at h ⊢ <;> first | exact hk _ _ h | exact h | skip
    · exact Calls.mono h fun e w'' h' => by cases e <;> first | exact hk _ _ h' | exact he _ _ h' | exact h'
    · exact RoundIn.mono h fun e w'' h' => by cases e <;> first | exact hk _ _ h' | exact he _ _ h' | exact h'
  | halt x w => cases x <;> simp only [upon] at h ⊢ <;> first | exact he _ _ h | exact h
theorem X0_mono {P : Program} {c : Cop} {ty : TypeId} {w : World} {K K' : Value → World → Prop} {E E' : List PanicEntry → World → Prop}
    (h : X0 P c ty w K E) (hk : ∀ v w, K v w → K' v w) (he : ∀ c w, E c w → E' c w) : X0 P c ty w K' E' := upon_mono hk he _ h
def yv (ops : Array Oper) (a : Act) (j : Nat) : Option Value := ((ops[j]?).bind (·.dst)).bind (a.tmps[·]?)
theorem yielded_yv (ops : Array Oper) (a : Act) (j : Nat) : yielded ops a.tmps j = match yv ops a j with | some (.bool b) => some b | _ => none := rfl
theorem tail_one (x : Value) (A : Array Value) : (#[x] ++ A).extract 1 (#[x] ++ A).size = A := by
  apply Array.ext'
  rw [Array.toList_extract, List.extract_eq_take_drop, Array.toList_append, Array.size_append]
  show List.take _ (List.drop 1 (x :: A.toList)) = A.toList
  rw [List.drop_one, List.tail_cons]
  exact List.take_of_length_le (by simp)
theorem execOp_close (o : Oper) (ρ : Operand → Value) (hρ : ∀ f, ρ (.func f) = .func (.func f) #[] #[]) (c : Cop) (h : close ρ o.op = some c) (P : Program) (w : World) :
    (execOp ρ o).run P w = (c.sem o.type).run P w ∨ ∃ s w', (c.sem o.type).run P w = .halt (.stuck s) w' := by
  obtain ⟨dst, op, type, pos, after, guard⟩ := o
  cases op <;> simp only [close, Option.some.injEq, reduceCtorEq] at h <;> try (subst h; exact .inl rfl)
  case nilCheck x =>
    subst h
    simp only [Cop.sem, execOp]
    generalize ρ x = v at *
    cases v <;> try exact .inl rfl
    case pointer p => cases p <;> exact .inl rfl
    case func fn first cap => cases fn <;> first | exact .inl rfl | exact .inr ⟨_, _, rfl⟩
  case binOp op xt x y yt =>
    subst h
    have e : eqG op xt (isC x) (isC y) (ρ x) (ρ y) = eqGuard op xt x y (ρ x) (ρ y) := by
      cases x <;> cases y <;> simp [eqG, isC, eqGuard]
    simp only [Cop.sem, e]
    exact .inl rfl
  case call c =>
    obtain ⟨callee, args, ats⟩ := c
    cases callee with
    | value f =>
      cases f <;> simp only [Option.some.injEq] at h <;> subst h <;> try exact .inl rfl
      rename_i f
      refine .inl ?_
      simp [Cop.sem, execOp, resolve, hρ, Deferred.ofValue, invoke, bind, Sem.bind, pure]
    | builtin b => simp only [Option.some.injEq] at h; subst h; exact .inl rfl
    | invoke r nm =>
      simp only [Option.some.injEq] at h; subst h
      refine .inl ?_
      have e1 : ((#[ρ r] ++ Array.map ρ args)[0]? : Option Value) = some (ρ r) := by
        rw [Array.getElem?_append_left (by simp)]; rfl
      have e2 : (#[ρ r] ++ Array.map ρ args).extract 1 (#[ρ r] ++ Array.map ρ args).size = Array.map ρ args := tail_one _ _
      simp only [Cop.sem, execOp, resolve, invoke, bind, Sem.bind, pure, e1, e2]
end Go.Eng
namespace Go.Eng
def XQ0 (P : Program) (c : Cop) (ty : TypeId) (w : World) (K : Value → Prop) : Prop :=
  match (c.sem ty).run P w with
  | .ok (.value v) w' => w' = w ∧ K v
  | _ => False
def XQm0 (P : Program) (c : Cop) (ty : TypeId) (w : World) (K : Value → Prop) : Prop :=
  match c with
  | .val v => K v
  | c => XQ0 P c ty w K
theorem XQ0_of_XQm0 {P : Program} {c : Cop} {ty : TypeId} {w : World} {K : Value → Prop} (h : XQm0 P c ty w K) : XQ0 P c ty w K := by
  cases c <;> first | exact h | exact ⟨rfl, h⟩
theorem X0_of_XQ0 {P : Program} {c : Cop} {ty : TypeId} {w : World} {K : Value → Prop} {N : Value → World → Prop} {E : List PanicEntry → World → Prop} (h : XQ0 P c ty w K) (hk : ∀ v, K v → N v w) : X0 P c ty w N E := by
  unfold XQ0 at h
  unfold X0
  generalize (c.sem ty).run P w = r at *
  cases r with
  | ok n w' =>
    cases n <;> simp only at h <;> try exact h.elim
    obtain ⟨rfl, h⟩ := h
    exact hk _ h
  | halt x w' => exact h.elim
def XQG0 (g : Option Value) (want : Bool) (P : Program) (c : Cop) (ty : TypeId) (w : World) (K : Value → Prop) : Prop :=
  match g with
  | some (.bool b) => if b = want then XQ0 P c ty w K else K undef
  | _ => K undef
theorem eval_func (a : Act) (f : FuncId) : a.eval (.func f) = .func (.func f) #[] #[] := rfl
def opS (P : Program) (ops : Array Oper) (Q : Exit → Act → World → Prop) (o : Oper) (a : Act) (w : World) (N : Act → World → Prop) : Prop :=
  match close a.eval o.op with
  | none => False
  | some c =>
    match o.guard with
    | none => X0 P c o.type w (fun v w' => N (a.put o.dst v) w') (fun ch w' => Q (.panic ch) a w')
    | some (j, want) => XG0 (yv ops a j) want P c o.type w (fun v w' => N (a.put o.dst v) w') (fun ch w' => Q (.panic ch) a w')
def vcOps (P : Program) (ops : Array Oper) (Q : Exit → Act → World → Prop) : List Oper → Act → World → Prop
  | [], a, w => Q .normal a w
  | o :: rest, a, w => opS P ops Q o a w (vcOps P ops Q rest)
theorem close_defer {ρ : Operand → Value} {o : Op} {c : Cop} (h : close ρ o = some c) : ∀ d, o ≠ .defer d := by
  intro d e
  subst e
  simp [close] at h
theorem callsFw {r : Option Nat} {P : Program} {f : FuncId} {args : Array Value} {w : World} {R : Ending → World → Prop} (h : Calls P f args w R) : CallsIn (Fw r) 0 P f args w R := by
  have := (callsIn_wide (n := 0)).2 h
  cases r with
  | none => exact this
  | some l => exact CallsIn.inRound l this
theorem wp_of_X0 {P : Program} {r : Option Nat} {o : Oper} {a : Act} {w : World} {c : Cop} {N : Act → World → Prop} {Q : Exit → Act → World → Prop} (hc : close a.eval o.op = some c)
    (h : X0 P c o.type w (fun v w' => N (a.put o.dst v) w') (fun ch w' => Q (.panic ch) a w')) : o.wpIn (Fw r) 0 P a w N Q := by
  unfold Oper.wpIn
  refine ⟨fun _ _ => trivial, ?_⟩
  rw [Oper.semAt_eq _ _ _ (close_defer hc)]
  rcases execOp_close o a.eval (eval_func a) c hc P w with he | ⟨s, w', he⟩
  · rw [he]
    unfold X0 at h
    generalize (c.sem o.type).run P w = r at *
    cases r with
    | ok n w' =>
      cases n <;> simp only [upon] at h <;> simp only [Oper.uponIn] <;> first | exact h | skip
      · refine ⟨fun h => (by cases h), ?_⟩
        exact callsFw (Calls.mono h fun e w'' h' => by cases e <;> first | exact h' | exact h'.elim)
      · refine ⟨fun h => (by cases h), ?_⟩
        exact RoundIn.mono (R := _) h fun e w'' h' => by cases e <;> first | exact h' | exact h'.elim
    | halt x w' => cases x <;> simp only [upon] at h <;> simp only [Oper.uponIn] <;> first | exact h | exact h.elim
  · unfold X0 at h
    rw [he] at h
    exact h.elim
theorem opS_sound {P : Program} {r : Option Nat} {ops : Array Oper} {Q : Exit → Act → World → Prop} {o : Oper} {a : Act} {w : World} {N : Act → World → Prop} (h : opS P ops Q o a w N) :
    if Region.wanted o (yielded ops a.tmps) then o.wpIn (Fw r) 0 P a w N Q else (∀ f, o.about P w a.eval = some f → (Fw r).fn f) ∧ N (a.put o.dst undef) w := by
  unfold opS at h
  cases hc : close a.eval o.op with
  | none => rw [hc] at h; exact h.elim
  | some c =>
    rw [hc] at h
    simp only at h
    cases hg : o.guard with
    | none =>
      rw [hg] at h
      simp only [Region.wanted, hg, if_true]
      exact wp_of_X0 hc h
    | some gw =>
      obtain ⟨j, want⟩ := gw
      rw [hg] at h
      simp only [XG0] at h
      simp only [Region.wanted, hg, yielded_yv]
      generalize yv ops a j = g at *
      have off : ∀ (K : Prop), K → if ((none : Option Bool) == some want) = true then (o.wpIn (Fw r) 0 P a w N Q) else (∀ f, o.about P w a.eval = some f → (Fw r).fn f) ∧ K := fun K h => by simp; exact ⟨fun _ _ => trivial, h⟩
      cases g with
      | none => exact off _ h
      | some v =>
        cases v <;> try exact off _ h
        rename_i b
        by_cases hb : b = want
        · subst hb; simp only [if_true] at h; simpa using (wp_of_X0 hc h)
        · simp only [if_neg hb] at h; simp [hb]; exact ⟨fun _ _ => trivial, h⟩
theorem vcOps_sound {P : Program} {r : Option Nat} {ops : Array Oper} {Q : Exit → Act → World → Prop} : ∀ (l : List Oper) (a : Act) (w : World), vcOps P ops Q l a w → wpListIn (Fw r) 0 P ops Q l a w
  | [], _, _, h => h
  | o :: rest, a, w, h => by
    have h' : opS P ops Q o a w (wpListIn (Fw r) 0 P ops Q rest) := by
      have := h
      simp only [vcOps, opS] at this ⊢
      cases hc : close a.eval o.op with
      | none => rw [hc] at this; exact this
      | some c =>
        rw [hc] at this
        simp only at this ⊢
        cases hg : o.guard with
        | none => rw [hg] at this; exact X0_mono this (fun v w' => vcOps_sound rest _ _) (fun _ _ h => h)
        | some gw =>
          obtain ⟨j, want⟩ := gw
          rw [hg] at this
          simp only [XG0] at this ⊢
          split <;> rename_i heq <;> simp only [heq] at this
          · split <;> rename_i hb <;> simp only [hb, if_true, if_false] at this
            · exact X0_mono this (fun v w' => vcOps_sound rest _ _) (fun _ _ h => h)
            · exact vcOps_sound rest _ _ this
          · exact vcOps_sound rest _ _ this
    exact opS_sound h'
def quietB : Op → Bool
  | .move _ | .assign _ | .pick .. | .build .. | .load .. | .nilCheck _ | .binOp .. | .unOp .. | .convert .. | .makeInterface .. | .makeFunc ..
  | .slice .. | .fieldAddr .. | .field .. | .indexAddr .. | .index .. | .lookup .. | .extract .. => true
  | .call { callee := .builtin b, .. } => match b with | .len | .cap | .min | .max => true | _ => false
  | _ => false
def lag1 (P : Program) (ops : Array Oper) (w : World) (e : Nat × Act × Value) : Prop :=
  match ops[e.1]? with
  | none => False
  | some o =>
    match close e.2.1.eval o.op with
    | none => False
    | some c =>
      match o.guard with
      | none => XQ0 P c o.type w (fun v => v = e.2.2)
      | some (j, want) => XQG0 (yv ops e.2.1 j) want P c o.type w (fun v => v = e.2.2)
def preds (ops : Array Oper) (i : Nat) : List Nat := ((ops[i]?).map fun o => (o.after.toList.filter (Region.binds .any)).map (·.on)).getD []
def reach (ops : Array Oper) : Nat → List Nat → List Nat → List Nat
  | 0, _, seen => seen
  | _ + 1, [], seen => seen
  | n + 1, j :: todo, seen => if seen.contains j then reach ops n todo seen else reach ops n (preds ops j ++ todo) (j :: seen)
def befores (ops : Array Oper) (i : Nat) : List Nat := reach ops 5000 (preds ops i) []
def lagS (P : Program) (ops : Array Oper) (w : World) (r : Prop) : List (Nat × Act × Value) → Prop
  | [] => r
  | e :: F => lag1 P ops w e ∧ lagS P ops w r F
def isMove : Op → Bool
  | .move _ | .assign _ => true
  | _ => false
def again (ops : Array Oper) (bf : List Nat) (F : List (Nat × Act × Value)) : List (Nat × Act × Value) :=
  F.filter fun e => !bf.contains e.1 && !(((ops[e.1]?).map (fun o => isMove o.op && o.guard.isNone)).getD false)
def andL : List Prop → Prop
  | [] => True
  | [p] => p
  | p :: q :: r => p ∧ andL (q :: r)
def readyR (ops : Array Oper) (rem : List Nat) (i : Nat) : Bool := (preds ops i).all fun j => !rem.contains j
def quietI (ops : Array Oper) (i : Nat) : Bool := ((ops[i]?).map fun o => quietB o.op).getD false
def canS (P : Program) (ops : Array Oper) (Q : Exit → Act → World → Prop) : Nat → List Nat → List (Nat × Act × Value) → Act → World → Prop
  | 0, _, _, _, _ => False
  | n + 1, rem, F, a, w =>
    match rem.find? (fun i => quietI ops i && readyR ops rem i) with
    | some i =>
      match ops[i]? with
      | none => False
      | some o =>
        match close a.eval o.op with
        | none => False
        | some c =>
          match o.guard with
          | none => XQm0 P c o.type w (fun v => canS P ops Q n (rem.filter (fun k => k != i)) ((i, a, v) :: F) (a.put o.dst v) w)
          | some (j, want) => XQG0 (yv ops a j) want P c o.type w (fun v => canS P ops Q n (rem.filter (fun k => k != i)) ((i, a, v) :: F) (a.put o.dst v) w)
    | none =>
      match rem with
      | [] => Q .normal a w
      | _ => andL ((rem.filter (readyR ops rem)).map fun i =>
        match ops[i]? with
        | none => False
        | some o => opS P ops Q o a w (fun a' w' => lagS P ops w' (canS P ops Q n (rem.filter (fun k => k != i)) F a' w') (again ops (befores ops i) F)))
def edgeB (ops : Array Oper) (i j : Nat) : Bool := (preds ops i).contains j
def looksB (ops : Array Oper) (i : Nat) (d : Tmp) : Bool := ((ops[i]?).map fun o => (o.looksAt ops).contains d).getD false
def dstOf (ops : Array Oper) (i : Nat) : Option Tmp := (ops[i]?).bind (·.dst)
def apartB (ops : Array Oper) : Bool :=
  (List.range ops.size).all fun j => match dstOf ops j with
    | none => true
    | some d => (List.range ops.size).all fun i => i == j || (dstOf ops i != some d && (!looksB ops i d || edgeB ops i j || edgeB ops j i))
def okDraw (ops : Array Oper) : Bool :=
  apartB ops && (List.range ops.size).all (fun i => (preds ops i).all (· < i))
def Sim (ops : Array Oper) (i : Nat) (a b : Act) : Prop :=
  ∀ o, ops[i]? = some o → close a.eval o.op = close b.eval o.op ∧ ∀ j want, o.guard = some (j, want) → yv ops a j = yv ops b j
theorem close_congr {ρ ρ' : Operand → Value} (op : Op) (h : ∀ x ∈ op.operands, ρ x = ρ' x) : close ρ op = close ρ' op := by
  cases op
  case call c =>
    obtain ⟨callee, args, ats⟩ := c
    have ha : args.map ρ = args.map ρ' := Array.map_congr_left fun x hx => h x (by simp only [Op.operands, Call.operands]; exact Array.mem_append.2 (.inr hx))
    cases callee with
    | value f =>
      have hf : ρ f = ρ' f := h f (by simp [Op.operands, Call.operands])
      cases f <;> simp only [close, ha, hf]
    | builtin b => simp only [close, ha]
    | invoke r nm =>
      have hf : ρ r = ρ' r := h r (by simp [Op.operands, Call.operands])
      simp only [close, ha, hf]
  case build t ps =>
    simp only [close, Option.some.injEq, Cop.build.injEq, true_and]
    exact Array.map_congr_left fun x hx => by
      have := h x.2 (by simp only [Op.operands, List.mem_toArray, List.mem_map]; exact ⟨x, by simpa using hx, rfl⟩)
      simp [this]
  case buildSlice t n ps =>
    simp only [close, Option.some.injEq, Cop.buildSlice.injEq, true_and]
    exact Array.map_congr_left fun x hx => by
      have := h x.2 (by simp only [Op.operands, List.mem_toArray, List.mem_map]; exact ⟨x, by simpa using hx, rfl⟩)
      simp [this]
  case makeFunc fn a b =>
    have h1 : a.map ρ = a.map ρ' := Array.map_congr_left fun x hx => h x (by simp only [Op.operands]; exact Array.mem_append.2 (.inl hx))
    have h2 : b.map ρ = b.map ρ' := Array.map_congr_left fun x hx => h x (by simp only [Op.operands]; exact Array.mem_append.2 (.inr hx))
    simp only [close, h1, h2]
  case slice t x lo hi mx =>
    have e0 : ρ x = ρ' x := h x (by simp [Op.operands])
    have e1 : lo.map ρ = lo.map ρ' := by cases lo with | none => rfl | some y => simp [h y (by simp [Op.operands])]
    have e2 : hi.map ρ = hi.map ρ' := by cases hi with | none => rfl | some y => simp [h y (by simp [Op.operands])]
    have e3 : mx.map ρ = mx.map ρ' := by cases mx with | none => rfl | some y => simp [h y (by simp [Op.operands])]
    simp only [close, e0, e1, e2, e3]
  case makeMap t r =>
    have e1 : r.map ρ = r.map ρ' := by cases r with | none => rfl | some y => simp [h y (by simp [Op.operands])]
    simp only [close, e1]
  all_goals first
    | rfl
    | (simp only [close]; simp [Op.operands] at h; simp [h])
theorem yv_put {ops : Array Oper} {a : Act} {d : Option Tmp} {v : Value} {j : Nat} (h : ∀ t, d = some t → (ops[j]?).bind (·.dst) ≠ some t) : yv ops (a.put d v) j = yv ops a j := by
  cases d with
  | none => rfl
  | some d =>
    unfold yv
    cases ht : (ops[j]?).bind (·.dst) with
    | none => rfl
    | some t =>
      have hne : d ≠ t := fun e => h d rfl (by rw [ht, e])
      simp [Act.put, Array.getElem?_setIfInBounds_ne hne]
theorem Sim.put {ops : Array Oper} {i : Nat} {a : Act} {d : Option Tmp} {v : Value} (h : ∀ t, d = some t → looksB ops i t = false) : Sim ops i (a.put d v) a := by
  intro o ho
  have hl : ∀ t, d = some t → t ∉ o.looksAt ops := fun t ht hm => by
    have := h t ht
    simp only [looksB, ho, Option.map_some, Option.getD_some] at this
    rw [List.contains_iff_mem.2 hm] at this
    cases this
  refine ⟨close_congr o.op fun x hx => Act.eval_put fun t ht hxt => hl t ht ?_, fun j want hg => yv_put fun t ht he => hl t ht ?_⟩
  · subst hxt
    exact List.mem_append_left _ (List.mem_filterMap.2 ⟨.tmp t, by simpa using hx, rfl⟩)
  · refine List.mem_append_right _ ?_
    simp [hg, he]
theorem Sim.symm {ops : Array Oper} {i : Nat} {a b : Act} (h : Sim ops i a b) : Sim ops i b a := fun o ho => ⟨(h o ho).1.symm, fun j want hg => ((h o ho).2 j want hg).symm⟩
theorem Sim.trans {ops : Array Oper} {i : Nat} {a b c : Act} (h : Sim ops i a b) (k : Sim ops i b c) : Sim ops i a c := fun o ho => ⟨(h o ho).1.trans (k o ho).1, fun j want hg => ((h o ho).2 j want hg).trans ((k o ho).2 j want hg)⟩
theorem Sim.refl {ops : Array Oper} {i : Nat} (a : Act) : Sim ops i a a := fun _ _ => ⟨rfl, fun _ _ _ => rfl⟩
theorem opS_sim {P : Program} {ops : Array Oper} {Q : Exit → Act → World → Prop} {o : Oper} {a b : Act} {w : World} {N N' : Act → World → Prop} {i : Nat} (hi : ops[i]? = some o) (hs : Sim ops i a b)
    (hQ : ∀ ch w, Q (.panic ch) a w → Q (.panic ch) b w) (hN : ∀ v w, N (a.put o.dst v) w → N' (b.put o.dst v) w) (h : opS P ops Q o a w N) : opS P ops Q o b w N' := by
  obtain ⟨h1, h2⟩ := hs o hi
  unfold opS at h ⊢
  rw [← h1]
  cases hc : close a.eval o.op with
  | none => rw [hc] at h; exact h
  | some c =>
    rw [hc] at h
    simp only at h ⊢
    cases hg : o.guard with
    | none => rw [hg] at h; exact X0_mono h (fun v w => hN v w) (fun _ _ => hQ _ _)
    | some gw =>
      obtain ⟨j, want⟩ := gw
      rw [hg] at h
      simp only at h ⊢
      rw [← h2 j want hg]
      generalize yv ops a j = g at *
      unfold XG0 at h ⊢
      split
      · simp only at h
        split <;> rename_i hb <;> simp only [hb, if_true, if_false] at h
        · exact X0_mono h (fun v w => hN v w) (fun _ _ => hQ _ _)
        · exact hN _ _ h
      · rename_i hne
        cases g with
        | none => exact hN _ _ h
        | some v => cases v <;> first | exact hN _ _ h | exact absurd rfl (hne _)
theorem opS_of_lag {P : Program} {ops : Array Oper} {Q : Exit → Act → World → Prop} {o : Oper} {i : Nat} {A a : Act} {v : Value} {w : World} {N : Act → World → Prop} (hi : ops[i]? = some o) (hs : Sim ops i A a)
    (hl : lag1 P ops w (i, A, v)) (hN : N (a.put o.dst v) w) : opS P ops Q o a w N := by
  obtain ⟨h1, h2⟩ := hs o hi
  simp only [lag1, hi] at hl
  unfold opS
  rw [← h1]
  cases hc : close A.eval o.op with
  | none => rw [hc] at hl; exact hl
  | some c =>
    rw [hc] at hl
    simp only at hl ⊢
    cases hg : o.guard with
    | none =>
      rw [hg] at hl
      exact X0_of_XQ0 hl (fun u h => by subst h; exact hN)
    | some gw =>
      obtain ⟨j, want⟩ := gw
      rw [hg] at hl
      simp only at hl ⊢
      rw [← h2 j want hg]
      unfold XQG0 at hl
      unfold XG0
      generalize yv ops A j = g at *
      split
      · simp only at hl
        split <;> rename_i hb <;> simp only [hb, if_true, if_false] at hl
        · exact X0_of_XQ0 hl (fun u h => by subst h; exact hN)
        · rw [hl]; exact hN
      · rename_i hne
        have : undef = v := by
          cases g with
          | none => exact hl
          | some u => cases u <;> first | exact hl | exact absurd rfl (hne _)
        rw [this]; exact hN
theorem lag_of_quiet {P : Program} {ops : Array Oper} {o : Oper} {i : Nat} {A : Act} {w : World} {K : Value → Prop} (hi : ops[i]? = some o)
    (h : match close A.eval o.op with
        | none => False
        | some c => match o.guard with
          | none => XQm0 P c o.type w K
          | some (j, want) => XQG0 (yv ops A j) want P c o.type w K) : ∃ v, lag1 P ops w (i, A, v) ∧ K v := by
  have key : ∀ c, XQ0 P c o.type w K → ∃ v, XQ0 P c o.type w (fun u => u = v) ∧ K v := by
    intro c hx
    unfold XQ0 at hx ⊢
    generalize (c.sem o.type).run P w = r at *
    cases r with
    | ok n w' =>
      cases n <;> simp only at hx ⊢ <;> try exact hx.elim
      rename_i v
      exact ⟨v, ⟨hx.1, rfl⟩, hx.2⟩
    | halt x w' => exact hx.elim
  cases hc : close A.eval o.op with
  | none => rw [hc] at h; exact h.elim
  | some c =>
    rw [hc] at h
    simp only [lag1, hi, hc]
    cases hg : o.guard with
    | none => rw [hg] at h; exact key c (XQ0_of_XQm0 h)
    | some gw =>
      obtain ⟨j, want⟩ := gw
      rw [hg] at h
      simp only at h ⊢
      unfold XQG0 at h ⊢
      generalize yv ops A j = g at *
      cases g with
      | none => exact ⟨undef, rfl, h⟩
      | some u =>
        cases u <;> try exact ⟨undef, rfl, h⟩
        rename_i b
        simp only at h ⊢
        by_cases hb : b = want
        · simp only [hb, if_true] at h ⊢; exact key c h
        · simp only [hb, if_false] at h ⊢; exact ⟨undef, rfl, h⟩
structure OkDraw (ops : Array Oper) : Prop where
  dst : ∀ i j d, i ≠ j → dstOf ops j = some d → dstOf ops i ≠ some d
  apart : ∀ i j d, i ≠ j → dstOf ops j = some d → looksB ops i d = true → i < ops.size → edgeB ops i j = true ∨ edgeB ops j i = true
  down : ∀ i, ∀ j ∈ preds ops i, j < i
theorem okDraw_spec {ops : Array Oper} (h : okDraw ops = true) : OkDraw ops := by
  simp only [okDraw, Bool.and_eq_true, List.all_eq_true, decide_eq_true_eq, List.mem_range] at h
  obtain ⟨h6, h7⟩ := h
  have lt_of_dst : ∀ i d, dstOf ops i = some d → i < ops.size := fun i d hd => by
    unfold dstOf at hd
    cases ho : ops[i]? with
    | none => rw [ho] at hd; cases hd
    | some o => exact (Array.getElem?_eq_some_iff.1 ho).1
  have h6' : ∀ i j d, i ≠ j → dstOf ops j = some d → i < ops.size → dstOf ops i ≠ some d ∧ (looksB ops i d = true → edgeB ops i j = true ∨ edgeB ops j i = true) := by
    intro i j d hij hd hi
    simp only [apartB, List.all_eq_true, List.mem_range] at h6
    have := h6 j (lt_of_dst j d hd)
    rw [hd] at this
    simp only [List.all_eq_true, List.mem_range] at this
    have := this i hi
    simp only [Bool.or_eq_true, beq_iff_eq, hij, false_or, Bool.and_eq_true, bne_iff_ne, ne_eq, Bool.not_eq_true'] at this
    exact ⟨this.1, fun hl => by rcases this.2 with (h | h) | h <;> simp_all⟩
  refine ⟨fun i j d hij hd he => ?_, fun i j d hij hd hl hi => (h6' i j d hij hd hi).2 hl, fun i j hj => ?_⟩
  · exact (h6' i j d hij hd (lt_of_dst i d he)).1 he
  · by_cases hi : i < ops.size
    · exact h7 i hi j hj
    · have : ops[i]? = none := Array.getElem?_eq_none (by omega)
      simp [preds, this] at hj
theorem mem_preds {ops : Array Oper} {i j : Nat} : j ∈ preds ops i ↔ ∃ o, ops[i]? = some o ∧ ∃ e ∈ o.after, Region.binds .any e = true ∧ e.on = j := by
  unfold preds
  cases ho : ops[i]? with
  | none => simp
  | some o =>
    simp only [Option.map_some, Option.getD_some, List.mem_map, List.mem_filter, Array.mem_toList_iff, Option.some.injEq, exists_eq_left']
    constructor
    · rintro ⟨e, ⟨h1, h2⟩, h3⟩; exact ⟨e, h1, h2, h3⟩
    · rintro ⟨e, h1, h2, h3⟩; exact ⟨e, ⟨h1, h2⟩, h3⟩
def puts (ops : Array Oper) (a : Act) : List (Nat × Act × Value) → Act
  | [] => a
  | e :: F => (puts ops a F).put (dstOf ops e.1) e.2.2
end Go.Eng
namespace Go.Eng
section
variable {P : Program} {ops : Array Oper} {Q : Exit → Act → World → Prop}
abbrev Ent := Nat × Act × Value
def Distinct (ops : Array Oper) : Prop := ∀ i j d, i ≠ j → dstOf ops j = some d → dstOf ops i ≠ some d
theorem puts_put (hD : Distinct ops) {i : Nat} (v : Value) : ∀ (F : List Ent) (a : Act), (∀ f ∈ F, f.1 ≠ i) → puts ops (a.put (dstOf ops i) v) F = (puts ops a F).put (dstOf ops i) v
  | [], _, _ => rfl
  | e :: F, a, h => by
    simp only [puts]
    rw [puts_put hD v F a (fun f hf => h f (List.mem_cons_of_mem _ hf))]
    exact Act.put_comm _ _ _ fun d hd => hD e.1 i d (h e (List.mem_cons_self ..)) hd
theorem puts_out (hD : Distinct ops) {e : Ent} : ∀ (F : List Ent) (a : Act), e ∈ F → (F.map (·.1)).Nodup →
    puts ops a F = puts ops (a.put (dstOf ops e.1) e.2.2) (F.filter (fun f => f.1 != e.1))
  | [], _, h, _ => by cases h
  | f :: F, a, h, hn => by
    rw [List.map_cons, List.nodup_cons] at hn
    rcases List.mem_cons.1 h with rfl | h'
    · have hf : F.filter (fun f => f.1 != e.1) = F := List.filter_eq_self.2 fun f hf => by
        simp only [bne_iff_ne, ne_eq]
        intro he
        exact hn.1 (he ▸ List.mem_map_of_mem hf)
      rw [List.filter_cons_of_neg (by simp), hf, puts_put hD _ F a fun f hf => by
        intro he
        exact hn.1 (he ▸ List.mem_map_of_mem hf)]
      rfl
    · have hne : f.1 ≠ e.1 := fun he => hn.1 (he ▸ List.mem_map_of_mem h')
      rw [List.filter_cons_of_pos (by simp [hne])]
      simp only [puts]
      rw [puts_out hD F a h' hn.2]
theorem defers_put (a : Act) (d : Option Tmp) (v : Value) : (a.put d v).defers = a.defers := by cases d <;> rfl
theorem defers_puts : ∀ (F : List Ent) (a : Act), (puts ops a F).defers = a.defers
  | [], _ => rfl
  | _ :: F, a => by simp only [puts]; rw [defers_put, defers_puts F a]
theorem sim_puts {i : Nat} : ∀ (F : List Ent) (a : Act), (∀ f ∈ F, ∀ d, dstOf ops f.1 = some d → looksB ops i d = false) → Sim ops i (puts ops a F) a
  | [], a, _ => Sim.refl a
  | e :: F, a, h => (Sim.put fun t ht => h e (List.mem_cons_self ..) t ht).trans (sim_puts F a fun f hf => h f (List.mem_cons_of_mem _ hf))
theorem puts_split (hD : Distinct ops) (p : Ent → Bool) : ∀ (F : List Ent) (a : Act), (F.map (·.1)).Nodup → puts ops a F = puts ops (puts ops a (F.filter p)) (F.filter fun f => !p f)
  | [], _, _ => rfl
  | e :: F, a, hn => by
    rw [List.map_cons, List.nodup_cons] at hn
    have ih := puts_split hD p F a hn.2
    cases hp : p e with
    | true =>
      rw [List.filter_cons_of_pos hp, List.filter_cons_of_neg (by simp [hp])]
      simp only [puts]
      rw [ih, puts_put hD _ _ _ fun f hf => by
        intro he
        exact hn.1 (he ▸ List.mem_map_of_mem (List.mem_filter.1 hf).1)]
    | false =>
      rw [List.filter_cons_of_neg (by simp [hp]), List.filter_cons_of_pos (by simp [hp])]
      simp only [puts]
      rw [ih]
theorem sim_filter (hD : Distinct ops) {i : Nat} (p : Ent → Bool) (F : List Ent) (a : Act) (hn : (F.map (·.1)).Nodup)
    (h : ∀ f ∈ F, p f = false → ∀ d, dstOf ops f.1 = some d → looksB ops i d = false) : Sim ops i (puts ops a F) (puts ops a (F.filter p)) := by
  rw [puts_split hD p F a hn]
  exact sim_puts _ _ fun f hf d hd => by
    obtain ⟨h1, h2⟩ := List.mem_filter.1 hf
    exact h f h1 (by simpa using h2) d hd
theorem lagS_spec {w : World} {r : Prop} : ∀ {L : List Ent}, lagS P ops w r L → r ∧ ∀ e ∈ L, lag1 P ops w e
  | [], h => ⟨h, fun _ h => by cases h⟩
  | e :: L, h => by
    obtain ⟨h1, h2⟩ := lagS_spec h.2
    exact ⟨h1, fun f hf => by
      rcases List.mem_cons.1 hf with rfl | hf
      · exact h.1
      · exact h2 f hf⟩
theorem lag1_move {w w' : World} {e : Ent} (hm : ((ops[e.1]?).map (fun o => isMove o.op && o.guard.isNone)).getD false = true) (h : lag1 P ops w e) : lag1 P ops w' e := by
  unfold lag1 at *
  cases ho : ops[e.1]? with
  | none => rw [ho] at hm; cases hm
  | some o =>
    rw [ho] at hm h
    simp only [Option.map_some, Option.getD_some, Bool.and_eq_true, Option.isNone_iff_eq_none] at hm
    simp only [hm.2] at h ⊢
    have h1 := hm.1
    generalize o.op = op at *
    cases op <;> simp only [isMove, Bool.false_eq_true] at h1 <;> exact ⟨rfl, h.2⟩
theorem reach_listed {listed : Array Bool} (hdown : ∀ j k, listed.getD j false = true → k ∈ preds ops j → listed.getD k false = true) :
    ∀ (n : Nat) (todo seen : List Nat), (∀ j ∈ todo, listed.getD j false = true) → (∀ j ∈ seen, listed.getD j false = true) → ∀ k ∈ reach ops n todo seen, listed.getD k false = true
  | 0, _, _, _, hs, k, hk => hs k hk
  | _ + 1, [], _, _, hs, k, hk => hs k hk
  | n + 1, j :: todo, seen, ht, hs, k, hk => by
    unfold reach at hk
    split at hk
    · exact reach_listed hdown n todo seen (fun m hm => ht m (List.mem_cons_of_mem _ hm)) hs k hk
    · refine reach_listed hdown n _ _ (fun m hm => ?_) (fun m hm => ?_) k hk
      · rcases List.mem_append.1 hm with hm | hm
        · exact hdown j m (ht j (List.mem_cons_self ..)) hm
        · exact ht m (List.mem_cons_of_mem _ hm)
      · rcases List.mem_cons.1 hm with rfl | hm
        · exact ht _ (List.mem_cons_self ..)
        · exact hs m hm
theorem befores_listed {listed : Array Bool} (hdown : ∀ j k, listed.getD j false = true → k ∈ preds ops j → listed.getD k false = true) (i k : Nat) (hp : ∀ j ∈ preds ops i, listed.getD j false = true)
    (h : k ∈ befores ops i) : listed.getD k false = true := reach_listed hdown _ _ _ hp (fun _ h => by cases h) k h
theorem andL_spec : ∀ {L : List Prop}, andL L → ∀ p ∈ L, p
  | [], _, p, hp => by cases hp
  | [q], h, p, hp => by rcases List.mem_singleton.1 hp with rfl; exact h
  | q :: r :: L, h, p, hp => by
    rcases List.mem_cons.1 hp with rfl | hp
    · exact h.1
    · exact andL_spec (L := r :: L) h.2 p hp
theorem readyR_iff {rem : List Nat} {i : Nat} : readyR ops rem i = true ↔ ∀ j ∈ preds ops i, j ∉ rem := by
  simp only [readyR, List.all_eq_true, Bool.not_eq_true']
  constructor
  · intro h j hj hm
    have := h j hj
    rw [List.contains_iff_mem.2 hm] at this
    cases this
  · intro h j hj
    cases hc : rem.contains j with
    | false => rfl
    | true => exact absurd (List.contains_iff_mem.1 hc) (h j hj)
structure Inv (P : Program) (ops : Array Oper) (Q : Exit → Act → World → Prop) (m : Nat) (cs : List Nat) (F Fc : List Ent) (a : Act) (w : World) (listed : Array Bool) : Prop where
  size : listed.size = ops.size
  unl : ∀ j, j < ops.size → (listed.getD j true = false ↔ j ∈ F.map (·.1) ∨ j ∈ cs)
  lt : ∀ j, j ∈ F.map (·.1) ∨ j ∈ cs → j < ops.size
  nd : (F.map (·.1) ++ cs).Nodup
  down : ∀ j k, listed.getD j false = true → k ∈ preds ops j → listed.getD k false = true
  order : ∀ e ∈ F, ∀ k ∈ cs, k ∉ preds ops e.1
  fact : ∀ e ∈ F, lag1 P ops w e
  sim : ∀ e ∈ F, Sim ops e.1 e.2.1 (puts ops a (F.filter fun f => edgeB ops e.1 f.1))
  fuel : cs.length < m
  can : canS P ops Q m cs Fc (puts ops a F) w
  sub : ∀ e ∈ F, e ∈ Fc
theorem Inv.listed_of {m : Nat} {cs : List Nat} {F Fc : List Ent} {a : Act} {w : World} {listed : Array Bool} (h : Inv P ops Q m cs F Fc a w listed) {j : Nat} (hj : j ∈ F.map (·.1) ∨ j ∈ cs) : listed.getD j false = false := by
  have h1 := (h.unl j (h.lt j hj)).2 hj
  have h2 : j < listed.size := by rw [h.size]; exact h.lt j hj
  simp [h2] at h1 ⊢
  exact h1
theorem edgeB_iff {i j : Nat} : edgeB ops i j = true ↔ j ∈ preds ops i := by unfold edgeB; exact List.contains_iff_mem
theorem len_out {i : Nat} : ∀ {cs : List Nat}, i ∈ cs → cs.Nodup → (cs.filter (fun k => k != i)).length + 1 = cs.length
  | [], h, _ => by cases h
  | k :: cs, h, hn => by
    rw [List.nodup_cons] at hn
    rcases List.mem_cons.1 h with rfl | h
    · rw [List.filter_cons_of_neg (by simp), List.filter_eq_self.2 fun f hf => by
        simp only [bne_iff_ne, ne_eq]
        intro e
        exact hn.1 (e ▸ hf)]
      rfl
    · have hne : k ≠ i := fun e => hn.1 (e ▸ h)
      rw [List.filter_cons_of_pos (by simp [hne])]
      simp only [List.length_cons]
      rw [len_out h hn.2]
theorem mem_out {i j : Nat} {cs : List Nat} : j ∈ cs.filter (fun k => k != i) ↔ j ∈ cs ∧ j ≠ i := by simp [List.mem_filter]
theorem advance (hD : Distinct ops) (hA : ∀ i j d, i ≠ j → dstOf ops j = some d → looksB ops i d = true → i < ops.size → edgeB ops i j = true ∨ edgeB ops j i = true) (hdn : ∀ i, ∀ j ∈ preds ops i, j < i) {a : Act} {w : World} {listed : Array Bool} :
    ∀ (m : Nat) (cs : List Nat) (F Fc : List Ent), Inv P ops Q m cs F Fc a w listed →
      ∃ m' cs' F' Fc', Inv P ops Q m' cs' F' Fc' a w listed ∧ F'.length + cs'.length = F.length + cs.length ∧ cs'.find? (fun i => quietI ops i && readyR ops cs' i) = none
  | 0, cs, F, Fc, h => absurd h.fuel (by omega)
  | m + 1, cs, F, Fc, h => by
    have hcan := h.can
    unfold canS at hcan
    cases hf : cs.find? (fun i => quietI ops i && readyR ops cs i) with
    | none => exact ⟨m + 1, cs, F, Fc, h, rfl, hf⟩
    | some i =>
      rw [hf] at hcan
      simp only at hcan
      have hic := List.mem_of_find?_eq_some hf
      have hp := List.find?_some hf
      simp only [Bool.and_eq_true] at hp
      obtain ⟨hqi, hri⟩ := hp
      have hpre := readyR_iff.1 hri
      cases ho : ops[i]? with
      | none => rw [ho] at hcan; exact hcan.elim
      | some o =>
        rw [ho] at hcan
        simp only at hcan
        obtain ⟨v, hl, hc⟩ := lag_of_quiet (i := i) ho hcan
        have hdst : dstOf ops i = o.dst := by simp [dstOf, ho]
        have hnd := h.nd
        have hcn : cs.Nodup := (List.nodup_append.1 hnd).2.1
        have hself : edgeB ops i i = false := by
          cases he : edgeB ops i i with
          | false => rfl
          | true => exact absurd (hdn i i (edgeB_iff.1 he)) (by omega)
        have hFn : (F.map (·.1)).Nodup := (List.nodup_append.1 hnd).1
        have hiF : ∀ f ∈ F, f.1 ≠ i := fun f hf he => (List.nodup_append.1 hnd).2.2 f.1 (List.mem_map_of_mem hf) i hic he
        have hlen := len_out hic hcn
        have inv' : Inv P ops Q m (cs.filter (fun k => k != i)) ((i, puts ops a F, v) :: F) ((i, puts ops a F, v) :: Fc) a w listed := by
          refine ⟨h.size, fun j hj => ?_, fun j hj => ?_, ?_, h.down, ?_, ?_, ?_, ?_, ?_, ?_⟩
          · rw [h.unl j hj, mem_out]; simp only [List.map_cons, List.mem_cons]; constructor
            · rintro (h | h)
              · exact .inl (.inr h)
              · by_cases e : j = i
                · exact .inl (.inl e)
                · exact .inr ⟨h, e⟩
            · rintro ((rfl | h) | h)
              · exact .inr hic
              · exact .inl h
              · exact .inr h.1
          · apply h.lt
            rw [mem_out] at hj
            simp only [List.map_cons, List.mem_cons] at hj
            rcases hj with (rfl | h) | h
            · exact .inr hic
            · exact .inl h
            · exact .inr h.1
          · rw [List.map_cons, List.cons_append, List.nodup_cons]
            refine ⟨fun hm => ?_, ?_⟩
            · rcases List.mem_append.1 hm with hm | hm
              · obtain ⟨f, hf, hfi⟩ := List.mem_map.1 hm
                exact hiF f hf hfi
              · exact (mem_out.1 hm).2 rfl
            · exact hnd.sublist (List.Sublist.append (List.Sublist.refl _) List.filter_sublist)
          · intro e he k hk
            rcases List.mem_cons.1 he with rfl | he
            · exact fun hkp => hpre k hkp (mem_out.1 hk).1
            · exact h.order e he k (mem_out.1 hk).1
          · intro e he
            rcases List.mem_cons.1 he with rfl | he
            · exact hl
            · exact h.fact e he
          · intro e he
            rcases List.mem_cons.1 he with rfl | he
            · rw [List.filter_cons_of_neg (by simp [hself])]
              refine sim_filter hD _ F a hFn fun f hf hp d hd => ?_
              cases hlk : looksB ops i d with
              | false => rfl
              | true =>
                have hi : i < ops.size := h.lt i (.inr hic)
                rcases hA i f.1 d (fun e => hiF f hf e.symm) hd hlk hi with h1 | h1
                · rw [hp] at h1; cases h1
                · exact absurd (edgeB_iff.1 h1) (h.order f hf i hic)
            · have : edgeB ops e.1 i = false := by
                cases hh : edgeB ops e.1 i with
                | false => rfl
                | true => exact absurd (edgeB_iff.1 hh) (h.order e he i hic)
              rw [List.filter_cons_of_neg (by simp [this])]
              exact h.sim e he
          · have := h.fuel; omega
          · simp only [puts]
            rw [hdst]
            exact hc
          · intro e he
            rcases List.mem_cons.1 he with rfl | he
            · exact List.mem_cons_self ..
            · exact List.mem_cons_of_mem _ (h.sub e he)
        obtain ⟨m', cs', F', Fc', h1, h2, h3⟩ := advance hD hA hdn m _ _ _ inv'
        exact ⟨m', cs', F', Fc', h1, by rw [h2]; simp only [List.length_cons]; omega, h3⟩
theorem getD_replicate_false' (m j : Nat) : (Array.replicate m false).getD j false = false := by
  rcases Nat.lt_or_ge j m with h | h
  · simp [h]
  · simp [h]
theorem ready_exists (hdn : ∀ i, ∀ j ∈ preds ops i, j < i) {listed : Array Bool} (hs : listed.size = ops.size) : ∀ (i : Nat), i < ops.size → listed.getD i true = false → Region.ready .any ops listed ≠ [] := by
  intro i
  induction i using Nat.strongRecOn with
  | _ i ih =>
    intro hi hu
    by_cases hall : ∀ j ∈ preds ops i, listed.getD j false = true
    · intro hr
      have : i ∈ Region.ready .any ops listed := mem_ready.2 ⟨hu, ops[i], by simp [hi], fun e he hb => hall e.on (mem_preds.2 ⟨ops[i], by simp [hi], e, he, hb, rfl⟩)⟩
      rw [hr] at this
      cases this
    · simp only [Classical.not_forall] at hall
      obtain ⟨j, hj, hn⟩ := hall
      have hlt := hdn i j hj
      refine ih j hlt (by omega) ?_
      have : j < listed.size := by omega
      simp [this] at hn ⊢
      exact hn
theorem draw_main {r : Option Nat} (hQ : ∀ (ch : List PanicEntry) (a b : Act) (w : World), a.defers = b.defers → Q (.panic ch) a w → Q (.panic ch) b w) (hD : Distinct ops)
    (hA : ∀ i j d, i ≠ j → dstOf ops j = some d → looksB ops i d = true → i < ops.size → edgeB ops i j = true ∨ edgeB ops j i = true) (hdn : ∀ i, ∀ j ∈ preds ops i, j < i) :
    ∀ (n m : Nat) (cs : List Nat) (F Fc : List Ent) (a : Act) (w : World) (listed : Array Bool), F.length + cs.length = n → Inv P ops Q m cs F Fc a w listed → wpAnyIn (Fw r) 0 P .any ops Q n listed a w := by
  intro n
  induction n with
  | zero =>
    intro m cs F Fc a w listed hl h
    have hF : F = [] := List.eq_nil_of_length_eq_zero (by omega)
    have hc : cs = [] := List.eq_nil_of_length_eq_zero (by omega)
    subst hF; subst hc
    have hcan : Q .normal a w := by
      have := h.can
      cases m with
      | zero => exact absurd h.fuel (by omega)
      | succ m => exact this
    refine ⟨?_, hcan⟩
    rw [List.eq_nil_iff_forall_not_mem]
    intro j hj
    obtain ⟨h1, o, h2, _⟩ := mem_ready.1 hj
    have := (h.unl j (Array.getElem?_eq_some_iff.1 h2).1).1 h1
    rcases this with h | h <;> cases h
  | succ n ih =>
    intro m cs F Fc a w listed hl h
    obtain ⟨m, cs, F, Fc, h, hlen, hhead⟩ := advance hD hA hdn m cs F Fc h
    rw [hl] at hlen
    have hne : ∃ j, j < ops.size ∧ listed.getD j true = false := by
      cases hF : F with
      | cons e F' =>
        have he : e.1 ∈ F.map (·.1) ∨ e.1 ∈ cs := .inl (by rw [hF]; simp)
        exact ⟨e.1, h.lt _ he, (h.unl _ (h.lt _ he)).2 he⟩
      | nil =>
        cases hc : cs with
        | cons k cs' =>
          have he : k ∈ F.map (·.1) ∨ k ∈ cs := .inr (by rw [hc]; simp)
          exact ⟨k, h.lt _ he, (h.unl _ (h.lt _ he)).2 he⟩
        | nil => rw [hF, hc] at hlen; simp at hlen
    obtain ⟨j0, hj0, hu0⟩ := hne
    refine ⟨fun h0 => absurd h0 (ready_exists hdn h.size j0 hj0 hu0), fun i hi => ?_⟩
    obtain ⟨hu, o, ho, hpre⟩ := mem_ready.1 hi
    have hisz : i < ops.size := (Array.getElem?_eq_some_iff.1 ho).1
    have hpre' : ∀ j ∈ preds ops i, listed.getD j false = true := fun j hj => by
      obtain ⟨o', ho', e, he, hb, rfl⟩ := mem_preds.1 hj
      rw [ho] at ho'
      cases ho'
      exact hpre e he hb
    have hdst : dstOf ops i = o.dst := by simp [dstOf, ho]
    have hdown' : ∀ j k, (listed.setIfInBounds i true).getD j false = true → k ∈ preds ops j → (listed.setIfInBounds i true).getD k false = true := by
      intro j k hj hk
      by_cases hij : i = j
      · subst hij; exact getD_set_true (hpre' k hk)
      · rw [getD_set_ne false hij] at hj
        exact getD_set_true (h.down j k hj hk)
    have hsz' : (listed.setIfInBounds i true).size = ops.size := by simp [h.size]
    have hFn : (F.map (·.1)).Nodup := (List.nodup_append.1 h.nd).1
    have hset : ∀ j, j < ops.size → ((listed.setIfInBounds i true).getD j true = false ↔ listed.getD j true = false ∧ j ≠ i) := by
      intro j hj
      by_cases hij : i = j
      · subst hij
        have : i < listed.size := by rw [h.size]; exact hj
        simp [this]
      · rw [getD_set_ne true hij]; constructor
        · exact fun h => ⟨h, fun e => hij e.symm⟩
        · exact fun h => h.1
    have hwp : ∀ N : Act → World → Prop, opS P ops Q o a w N → wpOpIn (Fw r) 0 P ops Q i N a w := by
      intro N hN
      unfold wpOpIn
      rw [ho]
      exact opS_sound hN
    rcases (h.unl i hisz).1 hu with hiF | hic
    · -- a value that was taken comes now
      obtain ⟨e, he, hei⟩ := List.mem_map.1 hiF
      obtain ⟨i', A, v⟩ := e
      simp only at hei
      subst hei
      have hsim : Sim ops i' A a := by
        have h1 := h.sim _ he
        simp only at h1
        have hempty : (F.filter fun f => edgeB ops i' f.1) = [] := List.filter_eq_nil_iff.2 fun f hf hed => by
          have h2 := hpre' f.1 (edgeB_iff.1 hed)
          rw [h.listed_of (.inl (List.mem_map_of_mem hf))] at h2
          cases h2
        rw [hempty] at h1
        exact h1
      refine hwp _ (opS_of_lag ho hsim (h.fact _ he) ?_)
      have hlenF : (F.filter fun f => f.1 != i').length + 1 = F.length := by
        have : ∀ (G : List Ent), (i', A, v) ∈ G → (G.map (·.1)).Nodup → (G.filter fun f => f.1 != i').length + 1 = G.length := by
          intro G
          induction G with
          | nil => intro h; cases h
          | cons g G ihG =>
            intro hg hn
            rw [List.map_cons, List.nodup_cons] at hn
            rcases List.mem_cons.1 hg with rfl | hg
            · have e0 : G.filter (fun f => f.1 != i') = G := List.filter_eq_self.2 fun f hf => by
                simp only [bne_iff_ne, ne_eq]
                intro hh
                exact hn.1 (by simpa [hh] using List.mem_map_of_mem (f := (·.1)) hf)
              rw [List.filter_cons_of_neg (by simp), e0]
              rfl
            · have hne : g.1 ≠ i' := fun hh => hn.1 (by rw [hh]; exact List.mem_map_of_mem (f := (·.1)) hg)
              rw [List.filter_cons_of_pos (by simp [hne])]
              simp only [List.length_cons]
              rw [ihG hg hn.2]
        exact this F he hFn
      refine ih m cs (F.filter fun f => f.1 != i') Fc _ _ _ (by omega) ?_
      have hmem : ∀ j, j ∈ (F.filter fun f => f.1 != i').map (·.1) ↔ j ∈ F.map (·.1) ∧ j ≠ i' := by
        intro j
        simp only [List.mem_map, List.mem_filter, bne_iff_ne, ne_eq]
        constructor
        · rintro ⟨f, ⟨h1, h2⟩, rfl⟩; exact ⟨⟨f, h1, rfl⟩, h2⟩
        · rintro ⟨⟨f, h1, rfl⟩, h2⟩; exact ⟨f, ⟨h1, h2⟩, rfl⟩
      have hics : i' ∉ cs := fun hc => (List.nodup_append.1 h.nd).2.2 i' (List.mem_map_of_mem (f := (·.1)) he) i' hc rfl
      refine ⟨hsz', fun j hj => ?_, fun j hj => ?_, ?_, hdown', fun e' he' => h.order e' (List.mem_filter.1 he').1, fun e' he' => h.fact e' (List.mem_filter.1 he').1, fun e' he' => ?_, h.fuel, ?_,
        fun e' he' => h.sub e' (List.mem_filter.1 he').1⟩
      · rw [hset j hj, h.unl j hj, hmem]
        constructor
        · rintro ⟨h1 | h1, h2⟩
          · exact .inl ⟨h1, h2⟩
          · exact .inr h1
        · rintro (⟨h1, h2⟩ | h1)
          · exact ⟨.inl h1, h2⟩
          · exact ⟨.inr h1, fun e => hics (e ▸ h1)⟩
      · rw [hmem] at hj
        rcases hj with ⟨h1, _⟩ | h1
        · exact h.lt j (.inl h1)
        · exact h.lt j (.inr h1)
      · have hn := h.nd
        refine List.Nodup.sublist ?_ hn
        exact List.Sublist.append (List.Sublist.map _ List.filter_sublist) (List.Sublist.refl _)
      · obtain ⟨he1, he2⟩ := List.mem_filter.1 he'
        have hne' : e'.1 ≠ i' := by simpa using he2
        have hs := h.sim e' he1
        cases hed : edgeB ops e'.1 i' with
        | true =>
          have hin : (i', A, v) ∈ F.filter (fun f => edgeB ops e'.1 f.1) := List.mem_filter.2 ⟨he, hed⟩
          rw [puts_out hD _ a hin (List.Nodup.sublist (List.Sublist.map _ List.filter_sublist) hFn)] at hs
          rw [← hdst]
          have e1 : (F.filter fun f => f.1 != i').filter (fun f => edgeB ops e'.1 f.1) = (F.filter fun f => edgeB ops e'.1 f.1).filter (fun f => f.1 != i') := by
            rw [List.filter_filter, List.filter_filter]
            congr 1
            funext f
            exact Bool.and_comm _ _
          rw [e1]
          exact hs
        | false =>
          have e1 : (F.filter fun f => f.1 != i').filter (fun f => edgeB ops e'.1 f.1) = F.filter (fun f => edgeB ops e'.1 f.1) := by
            rw [List.filter_filter]
            refine List.filter_congr fun f hf => ?_
            by_cases hfi : f.1 = i'
            · rw [hfi, hed]; rfl
            · simp [hfi]
          rw [e1, ← hdst, puts_put hD _ _ _ (fun f hf hfi => by
            have := (List.mem_filter.1 hf).2
            rw [hfi, hed] at this
            cases this)]
          refine hs.trans (Sim.symm (Sim.put fun d hd => ?_))
          cases hlk : looksB ops e'.1 d with
          | false => rfl
          | true =>
            have hlt := h.lt e'.1 (.inl (List.mem_map_of_mem (f := (·.1)) he1))
            rcases hA e'.1 i' d hne' hd hlk hlt with h1 | h1
            · rw [hed] at h1; cases h1
            · have h2 := hpre' _ (edgeB_iff.1 h1)
              rw [h.listed_of (.inl (List.mem_map_of_mem (f := (·.1)) he1))] at h2
              cases h2
      · have := h.can
        rw [puts_out hD F a he hFn] at this
        rw [← hdst]
        exact this
    · -- the next one of the order, which acts
      cases m with
      | zero => exact absurd h.fuel (by omega)
      | succ m =>
      have hready : readyR ops cs i = true := readyR_iff.2 fun j hj hjc => by
        have h2 := hpre' j hj
        rw [h.listed_of (.inr hjc)] at h2
        cases h2
      have hq : quietI ops i = false := by
        cases hq : quietI ops i with
        | false => rfl
        | true =>
          have := List.find?_eq_none.1 hhead i hic
          rw [hq, hready] at this
          exact absurd rfl this
      have hcan := h.can
      unfold canS at hcan
      rw [hhead] at hcan
      simp only at hcan
      replace hcan : opS P ops Q o (puts ops a F) w (fun a' w' => lagS P ops w' (canS P ops Q m (cs.filter (fun k => k != i)) Fc a' w') (again ops (befores ops i) Fc)) := by
        cases cs with
        | nil => cases hic
        | cons k0 cs0 =>
          have := andL_spec hcan _ (List.mem_map_of_mem (List.mem_filter.2 ⟨hic, hready⟩))
          rw [ho] at this
          exact this
      have hlooks : ∀ f ∈ F, ∀ d, dstOf ops f.1 = some d → looksB ops i d = false := by
        intro f hf d hd
        cases hlk : looksB ops i d with
        | false => rfl
        | true =>
          have hne : i ≠ f.1 := fun e => (List.nodup_append.1 h.nd).2.2 f.1 (List.mem_map_of_mem (f := (·.1)) hf) i hic e.symm
          rcases hA i f.1 d hne hd hlk hisz with h1 | h1
          · have h2 := hpre' _ (edgeB_iff.1 h1)
            rw [h.listed_of (.inl (List.mem_map_of_mem (f := (·.1)) hf))] at h2
            cases h2
          · exact absurd (edgeB_iff.1 h1) (h.order f hf i hic)
      have hiF : ∀ f ∈ F, f.1 ≠ i := fun f hf e => (List.nodup_append.1 h.nd).2.2 f.1 (List.mem_map_of_mem (f := (·.1)) hf) i hic e
      refine hwp _ (opS_sim ho (sim_puts F a hlooks) (fun ch w => hQ ch _ _ w (defers_puts F a)) ?_ hcan)
      intro v w' hlag
      obtain ⟨hc, hfacts⟩ := lagS_spec hlag
      rw [← hdst] at hc ⊢
      have hcn : cs.Nodup := (List.nodup_append.1 h.nd).2.1
      have hlo := len_out hic hcn
      refine ih m (cs.filter (fun k => k != i)) F Fc _ _ _ (by omega) ?_
      refine ⟨hsz', fun j hj => ?_, fun j hj => ?_, h.nd.sublist (List.Sublist.append (List.Sublist.refl _) List.filter_sublist), hdown', fun e he k hk => h.order e he k (mem_out.1 hk).1, fun e he => ?_, fun e he => ?_, (by have := h.fuel; omega), ?_, h.sub⟩
      · rw [hset j hj, h.unl j hj, mem_out]
        constructor
        · rintro ⟨h1 | h1, h2⟩
          · exact .inl h1
          · exact .inr ⟨h1, h2⟩
        · rintro (h1 | h1)
          · refine ⟨.inl h1, fun e => ?_⟩
            obtain ⟨f, hf, hfi⟩ := List.mem_map.1 h1
            exact hiF f hf (hfi.trans e)
          · exact ⟨.inr h1.1, h1.2⟩
      · rcases hj with h1 | h1
        · exact h.lt j (.inl h1)
        · exact h.lt j (.inr (mem_out.1 h1).1)
      · by_cases hag : e ∈ again ops (befores ops i) Fc
        · exact hfacts e hag
        · have hin := h.sub e he
          have : ¬ ((!(befores ops i).contains e.1 && !(((ops[e.1]?).map (fun o => isMove o.op && o.guard.isNone)).getD false)) = true) := fun hh => hag (List.mem_filter.2 ⟨hin, hh⟩)
          simp only [Bool.and_eq_true, Bool.not_eq_true', not_and, Bool.not_eq_false] at this
          by_cases hb : (befores ops i).contains e.1 = true
          · have h2 := befores_listed h.down i e.1 hpre' (List.contains_iff_mem.1 hb)
            rw [h.listed_of (.inl (List.mem_map_of_mem (f := (·.1)) he))] at h2
            cases h2
          · exact lag1_move (this (by simpa using hb)) (h.fact e he)
      · rw [puts_put hD _ _ _ fun f hf => hiF f (List.mem_filter.1 hf).1]
        refine (h.sim e he).trans (Sim.symm (Sim.put fun d hd => ?_))
        cases hlk : looksB ops e.1 d with
        | false => rfl
        | true =>
          have hlt := h.lt e.1 (.inl (List.mem_map_of_mem (f := (·.1)) he))
          rcases hA e.1 i d (hiF e he) hd hlk hlt with h1 | h1
          · exact absurd (edgeB_iff.1 h1) (h.order e he i hic)
          · have h2 := hpre' _ (edgeB_iff.1 h1)
            rw [h.listed_of (.inl (List.mem_map_of_mem (f := (·.1)) he))] at h2
            cases h2
      · rw [puts_put hD _ _ _ hiF]
        exact hc
theorem wp_draw {r : Option Nat} (hm : P.follows .mixedOrders = true) (hQ : ∀ (ch : List PanicEntry) (a b : Act) (w : World), a.defers = b.defers → Q (.panic ch) a w → Q (.panic ch) b w) {id : Nat} {a : Act} {w : World} (hok : okDraw ops = true)
    (h : canS P ops Q (ops.size + 1) (List.range ops.size) [] a { w with drawn := w.drawn + 1 }) : (Code.region id ops true).wpIn (Fw r) 0 P Q a w := by
  have ok := okDraw_spec hok
  refine wpIn_region_any hm ?_
  refine draw_main hQ ok.dst ok.apart ok.down ops.size (ops.size + 1) (List.range ops.size) [] [] a _ _ (by simp) ?_
  refine ⟨by simp, fun j hj => ?_, fun j hj => ?_, by simpa using List.nodup_range, fun j k hj => ?_, fun e he => (by cases he), fun e he => (by cases he),
    fun e he => (by cases he), by simp, h, fun e he => (by cases he)⟩
  · simp [hj]
  · rcases hj with h1 | h1
    · cases h1
    · exact List.mem_range.1 h1
  · exfalso
    rw [getD_replicate_false'] at hj
    cases hj
end
end Go.Eng
namespace Go.Eng
def fr : Code → Option Nat
  | .region id _ _ => some id
  | .seq x y => match fr x with | some i => some i | none => fr y
  | .cond _ x y => match fr x with | some i => some i | none => fr y
  | .block _ c => fr c
  | .loop c => fr c
  | .scope c => fr c
  | .rangeFunc _ _ a b => match fr b with | some i => some i | none => fr a
  | _ => none
def Cnd0 (v : Value) (T F : Prop) : Prop :=
  match v with
  | .bool true => T
  | .bool false => F
  | _ => False
abbrev Env := Tmp → Value
def gt (a : Act) (t : Tmp) : Value := a.tmps.getD t undef
def wr : Code → List Tmp
  | .region _ ops _ => ops.toList.filterMap (·.dst)
  | .seq x y => wr x ++ wr y
  | .cond _ x y => wr x ++ wr y
  | .block _ c => wr c
  | .loop c => wr c
  | .scope c => wr c
  | .rangeFunc _ ps x y => ps.toList ++ (wr x ++ wr y)
  | _ => []
structure Ag (W : List Tmp) (a0 a : Act) : Prop where
  size : a.tmps.size = a0.tmps.size
  defers : a.defers = a0.defers
  get : ∀ t, t ∉ W → gt a t = gt a0 t
theorem Ag.refl (W : List Tmp) (a : Act) : Ag W a a := ⟨rfl, rfl, fun _ _ => rfl⟩
theorem Ag.trans {W : List Tmp} {a b c : Act} (h : Ag W a b) (k : Ag W b c) : Ag W a c := ⟨k.size.trans h.size, k.defers.trans h.defers, fun t ht => (k.get t ht).trans (h.get t ht)⟩
theorem Ag.mono {W W' : List Tmp} {a b : Act} (h : Ag W a b) (hW : ∀ t ∈ W, t ∈ W') : Ag W' a b := ⟨h.size, h.defers, fun t ht => h.get t fun hm => ht (hW t hm)⟩
theorem Ag.put {W : List Tmp} {a0 a : Act} (h : Ag W a0 a) (d : Option Tmp) (v : Value) (hd : ∀ t, d = some t → t ∈ W) : Ag W a0 (a.put d v) := by
  cases d with
  | none => exact h
  | some d =>
    refine ⟨by simp [Act.put, h.size], h.defers, fun t ht => ?_⟩
    have hne : d ≠ t := fun e => ht (e ▸ hd d rfl)
    rw [← h.get t ht]
    simp [gt, Act.put, Array.getElem?_setIfInBounds_ne hne]
def Qs (W : List Tmp) (a0 : Act) (Q : Exit → Act → World → Prop) : Exit → Act → World → Prop
  | .panic ch, a, w => Q (.panic ch) a w ∧ a.defers = a0.defers
  | .outgrown, a, w => Q .outgrown a w
  | e, a, w => Q e a w ∧ Ag W a0 a
def ev (ρ : Env) : Operand → Value
  | .tmp t => ρ t
  | .const v => v
  | .global g => .pointer (some ⟨g, 0, none⟩)
  | .func f => .func (.func f) #[] #[]
def pt (ρ : Env) (d : Option Tmp) (v : Value) : Env :=
  match d with
  | none => ρ
  | some d => fun t => match Nat.beq t d with | true => v | false => ρ t
def gv (ops : Array Oper) (ρ : Env) (j : Nat) : Option Value := ((ops[j]?).bind (·.dst)).map ρ
structure X (P : Program) (c : Cop) (ty : TypeId) (w : World) (K : Value → World → Prop) (E : List PanicEntry → World → Prop) : Prop where
  out : X0 P c ty w K E
structure XG (g : Option Value) (want : Bool) (P : Program) (c : Cop) (ty : TypeId) (w : World) (K : Value → World → Prop) (E : List PanicEntry → World → Prop) : Prop where
  out : XG0 g want P c ty w K E
structure XQ (P : Program) (c : Cop) (ty : TypeId) (w : World) (K : Value → Prop) : Prop where
  out : XQ0 P c ty w K
structure XQG (g : Option Value) (want : Bool) (P : Program) (c : Cop) (ty : TypeId) (w : World) (K : Value → Prop) : Prop where
  out : XQG0 g want P c ty w K
structure Cnd (v : Value) (T F : Prop) : Prop where
  out : Cnd0 v T F
def Xm (P : Program) (c : Cop) (ty : TypeId) (w : World) (K : Value → World → Prop) (E : List PanicEntry → World → Prop) : Prop :=
  match c with
  | .val v => K v w
  | c => X P c ty w K E
def XQm (P : Program) (c : Cop) (ty : TypeId) (w : World) (K : Value → Prop) : Prop :=
  match c with
  | .val v => K v
  | c => XQ P c ty w K
theorem X0_of_Xm {P : Program} {c : Cop} {ty : TypeId} {w : World} {K : Value → World → Prop} {E : List PanicEntry → World → Prop} (h : Xm P c ty w K E) : X0 P c ty w K E := by
  cases c <;> first | exact h.out | exact h
theorem XQm0_of_XQm {P : Program} {c : Cop} {ty : TypeId} {w : World} {K : Value → Prop} (h : XQm P c ty w K) : XQm0 P c ty w K := by
  cases c <;> first | exact h.out | exact h
def opF (P : Program) (ops : Array Oper) (E : List PanicEntry → World → Prop) (o : Oper) (ρ : Env) (w : World) (N : Env → World → Prop) : Prop :=
  match close (ev ρ) o.op with
  | none => False
  | some c =>
    match o.guard with
    | none => Xm P c o.type w (fun v w' => N (pt ρ o.dst v) w') E
    | some (j, want) => XG (gv ops ρ j) want P c o.type w (fun v w' => N (pt ρ o.dst v) w') E
def vcOpsF (P : Program) (ops : Array Oper) (N : Env → World → Prop) (E : List PanicEntry → World → Prop) : List Oper → Env → World → Prop
  | [], ρ, w => N ρ w
  | o :: rest, ρ, w => opF P ops E o ρ w (vcOpsF P ops N E rest)
def lag1F (P : Program) (ops : Array Oper) (w : World) (e : Nat × Env × Value) : Prop :=
  match ops[e.1]? with
  | none => False
  | some o =>
    match close (ev e.2.1) o.op with
    | none => False
    | some c =>
      match o.guard with
      | none => XQ P c o.type w (fun v => v = e.2.2)
      | some (j, want) => XQG (gv ops e.2.1 j) want P c o.type w (fun v => v = e.2.2)
def lagF (P : Program) (ops : Array Oper) (w : World) (r : Prop) : List (Nat × Env × Value) → Prop
  | [] => r
  | e :: F => lag1F P ops w e ∧ lagF P ops w r F
def againF (ops : Array Oper) (bf : List Nat) (F : List (Nat × Env × Value)) : List (Nat × Env × Value) :=
  F.filter fun e => !bf.contains e.1 && !(((ops[e.1]?).map (fun o => isMove o.op && o.guard.isNone)).getD false)
def canF (P : Program) (ops : Array Oper) (N : Env → World → Prop) (E : List PanicEntry → World → Prop) : Nat → List Nat → List (Nat × Env × Value) → Env → World → Prop
  | 0, _, _, _, _ => False
  | n + 1, rem, F, ρ, w =>
    match rem.find? (fun i => quietI ops i && readyR ops rem i) with
    | some i =>
      match ops[i]? with
      | none => False
      | some o =>
        match close (ev ρ) o.op with
        | none => False
        | some c =>
          match o.guard with
          | none => XQm P c o.type w (fun v => canF P ops N E n (rem.filter (fun k => k != i)) ((i, ρ, v) :: F) (pt ρ o.dst v) w)
          | some (j, want) => XQG (gv ops ρ j) want P c o.type w (fun v => canF P ops N E n (rem.filter (fun k => k != i)) ((i, ρ, v) :: F) (pt ρ o.dst v) w)
    | none =>
      match rem with
      | [] => N ρ w
      | _ => andL ((rem.filter (readyR ops rem)).map fun i =>
        match ops[i]? with
        | none => False
        | some o => opF P ops E o ρ w (fun ρ' w' => lagF P ops w' (canF P ops N E n (rem.filter (fun k => k != i)) F ρ' w') (againF ops (befores ops i) F)))
theorem ev_gt (a : Act) : ev (gt a) = a.eval := by funext x; cases x <;> rfl
theorem gt_put {a : Act} {d : Option Tmp} {v : Value} (h : ∀ t, d = some t → t < a.tmps.size) : gt (a.put d v) = pt (gt a) d v := by
  cases d with
  | none => rfl
  | some d =>
    funext t
    have hd := h d rfl
    by_cases e : d = t
    · subst e
      simp [pt, gt, Act.put, hd]
    · have : Nat.beq t d = false := by
        cases hb : Nat.beq t d with
        | false => rfl
        | true => exact absurd (Nat.eq_of_beq_eq_true hb).symm e
      simp [pt, this, gt, Act.put, Array.getElem?_setIfInBounds_ne e]
theorem XG0_gv {ops : Array Oper} {a : Act} {j : Nat} {want : Bool} {P : Program} {c : Cop} {ty : TypeId} {w : World} {K : Value → World → Prop} {E : List PanicEntry → World → Prop}
    (h : XG0 (gv ops (gt a) j) want P c ty w K E) : XG0 (yv ops a j) want P c ty w K E := by
  unfold gv at h
  unfold yv
  cases hd : (ops[j]?).bind (·.dst) with
  | none => rw [hd] at h; exact h
  | some t =>
    rw [hd] at h
    simp only [Option.map_some, Option.bind_some] at h ⊢
    by_cases ht : t < a.tmps.size
    · simpa [gt, ht] using h
    · have e : gt a t = undef := by simp [gt, Array.getElem?_eq_none (Nat.le_of_not_lt ht)]
      rw [e] at h
      rw [Array.getElem?_eq_none (Nat.le_of_not_lt ht)]
      exact h
theorem XQG0_gv {ops : Array Oper} {a : Act} {j : Nat} {want : Bool} {P : Program} {c : Cop} {ty : TypeId} {w : World} {K : Value → Prop}
    (h : XQG0 (gv ops (gt a) j) want P c ty w K) : XQG0 (yv ops a j) want P c ty w K := by
  unfold gv at h
  unfold yv
  cases hd : (ops[j]?).bind (·.dst) with
  | none => rw [hd] at h; exact h
  | some t =>
    rw [hd] at h
    simp only [Option.map_some, Option.bind_some] at h ⊢
    by_cases ht : t < a.tmps.size
    · simpa [gt, ht] using h
    · have e : gt a t = undef := by simp [gt, Array.getElem?_eq_none (Nat.le_of_not_lt ht)]
      rw [e] at h
      rw [Array.getElem?_eq_none (Nat.le_of_not_lt ht)]
      exact h
theorem XG0_mono {g : Option Value} {want : Bool} {P : Program} {c : Cop} {ty : TypeId} {w : World} {K K' : Value → World → Prop} {E E' : List PanicEntry → World → Prop}
    (h : XG0 g want P c ty w K E) (hk : ∀ v w, K v w → K' v w) (he : ∀ c w, E c w → E' c w) : XG0 g want P c ty w K' E' := by
  unfold XG0 at h ⊢
  cases g with
  | none => exact hk _ _ h
  | some v =>
    cases v <;> try exact hk _ _ h
    rename_i b
    simp only at h ⊢
    by_cases hb : b = want
    · simp only [hb, if_true] at h ⊢; exact X0_mono h hk he
    · simp only [hb, if_false] at h ⊢; exact hk _ _ h
theorem XQ0_mono {P : Program} {c : Cop} {ty : TypeId} {w : World} {K K' : Value → Prop} (h : XQ0 P c ty w K) (hk : ∀ v, K v → K' v) : XQ0 P c ty w K' := by
  unfold XQ0 at *
  generalize (c.sem ty).run P w = r at *
  cases r with
  | ok n w' =>
    cases n <;> simp only at h ⊢ <;> try exact h.elim
    exact ⟨h.1, hk _ h.2⟩
  | halt x w' => exact h.elim
theorem XQm0_mono {P : Program} {c : Cop} {ty : TypeId} {w : World} {K K' : Value → Prop} (h : XQm0 P c ty w K) (hk : ∀ v, K v → K' v) : XQm0 P c ty w K' := by
  cases c <;> simp only [XQm0] at h ⊢ <;> first | exact XQ0_mono h hk | exact hk _ h
theorem XQG0_mono {g : Option Value} {want : Bool} {P : Program} {c : Cop} {ty : TypeId} {w : World} {K K' : Value → Prop} (h : XQG0 g want P c ty w K) (hk : ∀ v, K v → K' v) : XQG0 g want P c ty w K' := by
  unfold XQG0 at h ⊢
  cases g with
  | none => exact hk _ h
  | some v =>
    cases v <;> try exact hk _ h
    rename_i b
    simp only at h ⊢
    by_cases hb : b = want
    · simp only [hb, if_true] at h ⊢; exact XQ0_mono h hk
    · simp only [hb, if_false] at h ⊢; exact hk _ h
section
variable {P : Program} {ops : Array Oper} {W : List Tmp} {a0 : Act}
theorem opF_sound {Q : Exit → Act → World → Prop} {E : List PanicEntry → World → Prop} {o : Oper} {a : Act} {w : World} {N : Env → World → Prop} {N' : Act → World → Prop}
    (hd : ∀ t, o.dst = some t → t < a.tmps.size) (hE : ∀ ch w, E ch w → Q (.panic ch) a w) (hN : ∀ v w, N (gt (a.put o.dst v)) w → N' (a.put o.dst v) w)
    (h : opF P ops E o (gt a) w N) : opS P ops Q o a w N' := by
  unfold opF at h
  unfold opS
  rw [ev_gt] at h
  cases hc : close a.eval o.op with
  | none => rw [hc] at h; exact h
  | some c =>
    rw [hc] at h
    simp only at h ⊢
    have hN2 : ∀ v w, N (pt (gt a) o.dst v) w → N' (a.put o.dst v) w := fun v w h => hN v w (by rw [gt_put hd]; exact h)
    cases hg : o.guard with
    | none => rw [hg] at h; exact X0_mono (X0_of_Xm h) hN2 hE
    | some gw =>
      obtain ⟨j, want⟩ := gw
      rw [hg] at h
      exact XG0_gv (XG0_mono h.out hN2 hE)
theorem vcOpsF_sound {Q : Exit → Act → World → Prop} {N : Env → World → Prop} {E : List PanicEntry → World → Prop} (hE : ∀ ch a w, a.defers = a0.defers → E ch w → Q (.panic ch) a w)
    (hN : ∀ a w, Ag W a0 a → N (gt a) w → Q .normal a w) (hsz : ∀ t ∈ W, t < a0.tmps.size) : ∀ (l : List Oper) (a : Act) (w : World), (∀ o ∈ l, ∀ t, o.dst = some t → t ∈ W) → Ag W a0 a →
    vcOpsF P ops N E l (gt a) w → vcOps P ops Q l a w
  | [], _, _, _, h1, h => hN _ _ h1 h
  | o :: l, a, w, hW, h1, h => opF_sound (fun t ht => by rw [h1.size]; exact hsz t (hW o (List.mem_cons_self ..) t ht)) (fun _ _ h => hE _ _ _ h1.defers h)
      (fun _ w' h' => vcOpsF_sound hE hN hsz l _ w' (fun o ho => hW o (List.mem_cons_of_mem _ ho)) (h1.put _ _ (hW o (List.mem_cons_self ..))) h') h
theorem lag1F_sound {w : World} {i : Nat} {a : Act} {v : Value} (h : lag1F P ops w (i, gt a, v)) : lag1 P ops w (i, a, v) := by
  unfold lag1F at h
  unfold lag1
  simp only [ev_gt] at h
  simp only at h ⊢
  cases ho : ops[i]? with
  | none => rw [ho] at h; exact h
  | some o =>
    rw [ho] at h
    simp only at h ⊢
    cases hc : close a.eval o.op with
    | none => rw [hc] at h; exact h
    | some c =>
      rw [hc] at h
      simp only at h ⊢
      cases hg : o.guard with
      | none => rw [hg] at h; exact h.out
      | some gw =>
        obtain ⟨j, want⟩ := gw
        rw [hg] at h
        exact XQG0_gv h.out
def ofAct (F : List (Nat × Act × Value)) : List (Nat × Env × Value) := F.map fun e => (e.1, gt e.2.1, e.2.2)
theorem againF_of (bf : List Nat) (F : List (Nat × Act × Value)) : againF ops bf (ofAct F) = ofAct (again ops bf F) := by
  unfold againF again ofAct
  rw [List.filter_map]
  rfl
theorem lagF_sound {w : World} {r r' : Prop} (hr : r → r') : ∀ F : List (Nat × Act × Value), lagF P ops w r (ofAct F) → lagS P ops w r' F
  | [], h => hr h
  | _ :: F, h => ⟨lag1F_sound h.1, lagF_sound hr F h.2⟩
theorem andL_imp {α : Type} {f g : α → Prop} : ∀ (l : List α), (∀ x ∈ l, f x → g x) → andL (l.map f) → andL (l.map g)
  | [], _, _ => trivial
  | [x], h, k => h x (List.mem_singleton.2 rfl) k
  | x :: y :: l, h, k => ⟨h x (List.mem_cons_self ..) k.1, andL_imp (y :: l) (fun z hz => h z (List.mem_cons_of_mem _ hz)) k.2⟩
theorem canF_sound {Q : Exit → Act → World → Prop} {N : Env → World → Prop} {E : List PanicEntry → World → Prop} (hE : ∀ ch a w, a.defers = a0.defers → E ch w → Q (.panic ch) a w)
    (hN : ∀ a w, Ag W a0 a → N (gt a) w → Q .normal a w) (hsz : ∀ t ∈ W, t < a0.tmps.size) (hW : ∀ (i : Nat) (o : Oper), ops[i]? = some o → ∀ t, o.dst = some t → t ∈ W) :
    ∀ (n : Nat) (rem : List Nat) (F : List (Nat × Act × Value)) (a : Act) (w : World), Ag W a0 a → canF P ops N E n rem (ofAct F) (gt a) w → canS P ops Q n rem F a w
  | 0, _, _, _, _, _, h => h
  | n + 1, rem, F, a, w, h1, h => by
    unfold canF at h
    unfold canS
    cases hf : rem.find? (fun i => quietI ops i && readyR ops rem i) with
    | some i =>
      rw [hf] at h
      simp only at h ⊢
      cases ho : ops[i]? with
      | none => rw [ho] at h; exact h
      | some o =>
        rw [ho] at h
        simp only [ev_gt] at h ⊢
        have hd : ∀ t, o.dst = some t → t < a.tmps.size := fun t ht => by rw [h1.size]; exact hsz t (hW i o ho t ht)
        have step : ∀ v, canF P ops N E n (rem.filter (fun k => k != i)) ((i, gt a, v) :: ofAct F) (pt (gt a) o.dst v) w → canS P ops Q n (rem.filter (fun k => k != i)) ((i, a, v) :: F) (a.put o.dst v) w := fun v h' =>
          canF_sound hE hN hsz hW n _ ((i, a, v) :: F) _ w (h1.put _ _ (hW i o ho)) (by rw [gt_put hd]; exact h')
        cases hc : close a.eval o.op with
        | none => rw [hc] at h; exact h
        | some c =>
          rw [hc] at h
          simp only at h ⊢
          cases hg : o.guard with
          | none => rw [hg] at h; exact XQm0_mono (XQm0_of_XQm h) step
          | some gw =>
            obtain ⟨j, want⟩ := gw
            rw [hg] at h
            exact XQG0_gv (XQG0_mono h.out step)
    | none =>
      rw [hf] at h
      simp only at h ⊢
      cases rem with
      | nil => exact hN _ _ h1 h
      | cons r0 rs =>
        simp only at h ⊢
        refine andL_imp _ (fun i _ h => ?_) h
        cases ho : ops[i]? with
        | none => rw [ho] at h; exact h
        | some o =>
          rw [ho] at h
          simp only at h ⊢
          have hd : ∀ t, o.dst = some t → t < a.tmps.size := fun t ht => by rw [h1.size]; exact hsz t (hW i o ho t ht)
          refine opF_sound hd (fun _ _ h => hE _ _ _ h1.defers h) (fun v w' h' => ?_) h
          rw [againF_of] at h'
          exact lagF_sound (fun h'' => canF_sound hE hN hsz hW n _ F _ w' (h1.put _ _ (hW i o ho)) h'') _ h'
end
abbrev Cut := Option Nat → Option (Env → World → Prop)
abbrev Qe := Exit → Env → World → Prop
def thenE (next : Env → World → Prop) (Q : Qe) : Qe
  | .normal, ρ, w => next ρ w
  | e, ρ, w => Q e ρ w
def inBlockE (id : Nat) (Q : Qe) : Qe
  | .exit id', ρ, w => match Nat.beq id' id with
    | true => Q .normal ρ w
    | false => Q (.exit id') ρ w
  | e, ρ, w => Q e ρ w
def eE (Q : Qe) : List PanicEntry → World → Prop := fun ch w => Q (.panic ch) (fun _ => undef) w
def vcF (P : Program) (HJ HL : Cut) : Code → Qe → Env → World → Prop
  | .skip, Q, ρ, w => Q .normal ρ w
  | .region _ ops draw, Q, ρ, w =>
    match draw with
    | true => match okDraw ops with
      | true => canF P ops (Q .normal) (eE Q) (ops.size + 1) (List.range ops.size) [] ρ { w with drawn := w.drawn + 1 }
      | false => False
    | false => vcOpsF P ops (Q .normal) (eE Q) ops.toList ρ w
  | .seq x y, Q, ρ, w => match HJ (fr y) with
    | some h => vcF P HJ HL x (thenE h Q) ρ w
    | none => vcF P HJ HL x (thenE (vcF P HJ HL y Q) Q) ρ w
  | .cond c x y, Q, ρ, w => Cnd (ev ρ c) (vcF P HJ HL x Q ρ w) (vcF P HJ HL y Q ρ w)
  | .block id c, Q, ρ, w => vcF P HJ HL c (inBlockE id Q) ρ w
  | .loop c, _, ρ, w => match HL (fr c) with
    | some h => h ρ w
    | none => False
  | .rangeFunc _ _ x y, _, ρ, w => match HL (match fr y with | some i => some i | none => fr x) with
    | some h => h ρ w
    | none => False
  | .exit id, Q, ρ, w => Q (.exit id) ρ w
  | .ret, Q, ρ, w => Q .ret ρ w
  | .label _, Q, ρ, w => Q .normal ρ w
  | _, _, _, _ => False
def QA (Q : Qe) : Exit → Act → World → Prop := fun e a w => Q e (gt a) w
def PanicInd (Q : Qe) : Prop := ∀ ch ρ ρ' w, Q (.panic ch) ρ w → Q (.panic ch) ρ' w
theorem PanicInd.then {Q : Qe} (h : PanicInd Q) (k : Env → World → Prop) : PanicInd (thenE k Q) := fun ch ρ ρ' w => h ch ρ ρ' w
theorem PanicInd.inBlock {Q : Qe} (h : PanicInd Q) (id : Nat) : PanicInd (inBlockE id Q) := fun ch ρ ρ' w => h ch ρ ρ' w
def obl (r : Option Nat) (P : Program) (HJ HL : Cut) (W : List Tmp) (a0 : Act) : Code → Qe → Prop → Prop
  | .seq x y, Q, rr => match HJ (fr y) with
    | some h => obl r P HJ HL W a0 x (thenE h Q) ((∀ a w, Ag W a0 a → h (gt a) w → y.wpIn (Fw r) 0 P (Qs W a0 (QA Q)) a w) ∧ rr)
    | none => obl r P HJ HL W a0 x (thenE (vcF P HJ HL y Q) Q) (obl r P HJ HL W a0 y Q rr)
  | .cond _ x y, Q, rr => obl r P HJ HL W a0 x Q (obl r P HJ HL W a0 y Q rr)
  | .block id c, Q, rr => obl r P HJ HL W a0 c (inBlockE id Q) rr
  | .loop c, Q, rr => match HL (fr c) with
    | some h => (∀ a w, Ag W a0 a → h (gt a) w → (Code.loop c).wpIn (Fw r) 0 P (Qs W a0 (QA Q)) a w) ∧ rr
    | none => rr
  | .rangeFunc f ps x y, Q, rr => match HL (match fr y with | some i => some i | none => fr x) with
    | some h => (∀ a w, Ag W a0 a → h (gt a) w → (Code.rangeFunc f ps x y).wpIn (Fw r) 0 P (Qs W a0 (QA Q)) a w) ∧ rr
    | none => rr
  | _, _, rr => rr
theorem mem_dst {ops : Array Oper} {W : List Tmp} (hW : ∀ t ∈ ops.toList.filterMap (·.dst), t ∈ W) (o : Oper) (ho : o ∈ ops.toList) (t : Tmp) (ht : o.dst = some t) : t ∈ W :=
  hW t (List.mem_filterMap.2 ⟨o, ho, ht⟩)
theorem vcF_sound {P : Program} {r : Option Nat} {HJ HL : Cut} {W : List Tmp} {a0 : Act} (hm : P.follows .mixedOrders = true) (hsz : ∀ t ∈ W, t < a0.tmps.size) :
    ∀ (c : Code) (Q : Qe) (rr : Prop), (∀ t ∈ wr c, t ∈ W) → PanicInd Q → obl r P HJ HL W a0 c Q rr →
      (∀ a w, Ag W a0 a → vcF P HJ HL c Q (gt a) w → c.wpIn (Fw r) 0 P (Qs W a0 (QA Q)) a w) ∧ rr
  | .skip, Q, rr, _, _, h => ⟨fun a w h1 h3 => wpIn_skip ⟨h3, h1⟩, h⟩
  | .region id ops draw, Q, rr, hW, hp, h => ⟨fun a w h1 h3 => by
      unfold vcF at h3
      have hE : ∀ ch a w, a.defers = a0.defers → eE Q ch w → (Qs W a0 (QA Q)) (.panic ch) a w := fun ch a w hd h => ⟨hp _ _ _ _ h, hd⟩
      have hN : ∀ a w, Ag W a0 a → Q .normal (gt a) w → (Qs W a0 (QA Q)) .normal a w := fun a w h1 h => ⟨h, h1⟩
      cases draw with
      | true =>
        simp only at h3
        cases hok : okDraw ops with
        | false => rw [hok] at h3; exact h3.elim
        | true =>
          rw [hok] at h3
          simp only at h3
          exact wp_draw (Q := Qs W a0 (QA Q)) hm (fun ch a b w hd h => ⟨hp _ _ _ _ h.1, hd ▸ h.2⟩) hok
            (canF_sound hE hN hsz (fun i o ho => mem_dst hW o (Array.mem_toList_iff.2 (Array.mem_of_getElem? ho))) _ _ [] a _ h1 h3)
      | false =>
        simp only at h3
        exact wpIn_region_list (vcOps_sound _ _ _ (vcOpsF_sound hE hN hsz _ _ _ (mem_dst hW) h1 h3)), h⟩
  | .seq x y, Q, rr, hW, hp, h => by
    unfold obl at h
    unfold vcF
    have hWx : ∀ t ∈ wr x, t ∈ W := fun t ht => hW t (List.mem_append_left _ ht)
    have hWy : ∀ t ∈ wr y, t ∈ W := fun t ht => hW t (List.mem_append_right _ ht)
    cases hj : HJ (fr y) with
    | some k =>
      rw [hj] at h
      simp only at h ⊢
      obtain ⟨hx, hy, hr⟩ := vcF_sound hm hsz x (thenE k Q) _ hWx (hp.then k) h
      refine ⟨fun a w h1 h3 => wpIn_seq (wpIn_mono (hx a w h1 h3) fun e a w he => ?_), hr⟩
      cases e <;> first | exact he | exact hy a w he.2 he.1
    | none =>
      rw [hj] at h
      simp only at h ⊢
      obtain ⟨hx, hy⟩ := vcF_sound hm hsz x _ _ hWx (hp.then _) h
      obtain ⟨hy, hr⟩ := vcF_sound hm hsz y Q rr hWy hp hy
      refine ⟨fun a w h1 h3 => wpIn_seq (wpIn_mono (hx a w h1 h3) fun e a w he => ?_), hr⟩
      cases e <;> first | exact he | exact hy a w he.2 he.1
  | .cond c x y, Q, rr, hW, hp, h => by
    unfold obl at h
    have hWx : ∀ t ∈ wr x, t ∈ W := fun t ht => hW t (List.mem_append_left _ ht)
    have hWy : ∀ t ∈ wr y, t ∈ W := fun t ht => hW t (List.mem_append_right _ ht)
    obtain ⟨hx, hy⟩ := vcF_sound hm hsz x Q _ hWx hp h
    obtain ⟨hy, hr⟩ := vcF_sound hm hsz y Q rr hWy hp hy
    refine ⟨fun a w h1 h3 => ?_, hr⟩
    unfold vcF at h3
    rw [ev_gt] at h3
    replace h3 := h3.out
    generalize hv : a.eval c = v at h3
    cases v <;> try exact h3.elim
    rename_i b
    cases b with
    | true => exact wpIn_cond_true hv (hx a w h1 h3)
    | false => exact wpIn_cond_false hv (hy a w h1 h3)
  | .block id c, Q, rr, hW, hp, h => by
    unfold obl at h
    obtain ⟨hx, hr⟩ := vcF_sound hm hsz c _ rr hW (hp.inBlock id) h
    refine ⟨fun a w h1 h3 => wpIn_block (wpIn_mono (hx a w h1 h3) fun e a w he => ?_), hr⟩
    cases e <;> try exact he
    rename_i id'
    simp only [Qs, QA, inBlockE, Exit.inBlock] at he ⊢
    cases hb : Nat.beq id' id with
    | true => rw [hb] at he; rw [if_pos (Nat.eq_of_beq_eq_true hb)]; exact he
    | false => rw [hb] at he; rw [if_neg (fun e => by rw [e, Nat.beq_refl] at hb; cases hb)]; exact he
  | .loop c, Q, rr, hW, hp, h => by
    unfold obl at h
    unfold vcF
    cases hl : HL (fr c) with
    | none => rw [hl] at h; exact ⟨fun _ _ _ h => h.elim, h⟩
    | some k => rw [hl] at h; exact ⟨fun a w h1 h3 => h.1 a w h1 h3, h.2⟩
  | .rangeFunc f ps x y, Q, rr, hW, hp, h => by
    unfold obl at h
    unfold vcF
    cases hl : HL (match fr y with | some i => some i | none => fr x) with
    | none => rw [hl] at h; exact ⟨fun _ _ _ h => h.elim, h⟩
    | some k => rw [hl] at h; exact ⟨fun a w h1 h3 => h.1 a w h1 h3, h.2⟩
  | .exit id, Q, rr, _, _, h => ⟨fun a w h1 h3 => wpIn_exit ⟨h3, h1⟩, h⟩
  | .ret, Q, rr, _, _, h => ⟨fun a w h1 h3 => wpIn_ret ⟨h3, h1⟩, h⟩
  | .label l, Q, rr, _, _, h => ⟨fun a w h1 h3 => wpIn_label ⟨h3, h1⟩, h⟩
  | .scope c, Q, rr, _, _, h => ⟨fun a w h1 h3 => h3.elim, h⟩
  | .goto l, Q, rr, _, _, h => ⟨fun a w h1 h3 => h3.elim, h⟩
  | .refuse s, Q, rr, _, _, h => ⟨fun a w h1 h3 => h3.elim, h⟩
def cR : Code → Code | .seq _ y => y | c => c
def cL : Code → Code | .seq x _ => x | c => c
def cT : Code → Code | .cond _ x _ => x | c => c
def cF : Code → Code | .cond _ _ y => y | c => c
def cB : Code → Code | .block _ c => c | .loop c => c | .scope c => c | c => c
def bodyOf (f : Func) : Code := f.body.getD .skip
def QC (N R : Env → World → Prop) (J : Nat → Env → World → Prop) (E : List PanicEntry → World → Prop) : Qe
  | .normal, a, w => N a w
  | .ret, a, w => R a w
  | .exit id, a, w => J id a w
  | .panic ch, _, w => E ch w
  | _, _, _ => False
theorem piece' {P : Program} {r : Option Nat} {HJ HL : Cut} (hm : P.follows .mixedOrders = true) {c : Code} {Q : Exit → Act → World → Prop} {a : Act} {w : World} {n : Nat} (hs : a.tmps.size = n)
    (hn : ∀ t ∈ wr c, t < n)
    (N R : Env → World → Prop) (J : Nat → Env → World → Prop) (E : List PanicEntry → World → Prop)
    (hN : ∀ a' w', Ag (wr c) a a' → N (gt a') w' → Q .normal a' w') (hR : ∀ a' w', Ag (wr c) a a' → R (gt a') w' → Q .ret a' w')
    (hJ : ∀ id a' w', Ag (wr c) a a' → J id (gt a') w' → Q (.exit id) a' w') (hE : ∀ ch a' w', E ch w' → Q (.panic ch) a' w')
    (hobl : obl r P HJ HL (wr c) a c (QC N R J E) True) (h : vcF P HJ HL c (QC N R J E) (gt a) w) : c.wpIn (Fw r) 0 P (Qs (wr c) a Q) a w := by
  refine wpIn_mono ((vcF_sound hm (fun t ht => hs ▸ hn t ht) c (QC N R J E) True (fun _ h => h) (fun _ _ _ _ h => h) hobl).1 a w (Ag.refl _ _) h) fun e a' w' he => ?_
  cases e
  · exact ⟨hN _ _ he.2 he.1, he.2⟩
  · exact ⟨hJ _ _ _ he.2 he.1, he.2⟩
  · exact he.1.elim
  · exact ⟨hR _ _ he.2 he.1, he.2⟩
  · exact ⟨hE _ _ _ he.1, he.2⟩
  · exact he.elim
theorem pay {P : Program} {r : Option Nat} {W : List Tmp} {a0 : Act} {c : Code} {Q : Exit → Act → World → Prop} {h : Env → World → Prop} (hW : ∀ t ∈ wr c, t ∈ W)
    (ht : ∀ a w, a.tmps.size = a0.tmps.size → h (gt a) w → c.wpIn (Fw r) 0 P (Qs (wr c) a Q) a w) : ∀ a w, Ag W a0 a → h (gt a) w → c.wpIn (Fw r) 0 P (Qs W a0 Q) a w :=
  fun a w hag hh => wpIn_mono (ht a w hag.size hh) fun e a' w' he => by
    cases e <;> first | exact he | exact ⟨he.1, hag.trans (he.2.mono hW)⟩ | exact ⟨he.1, he.2.trans hag.defers⟩
theorem loop_piece {P : Program} {r : Option Nat} {c : Code} {Q : Exit → Act → World → Prop} {a : Act} {w : World} (I : Act → World → Prop) (μ : Act → World → Nat) (h0 : I a w)
    (hr : ∀ a' w', Ag (wr c) a a' → I a' w' → c.wpIn (Fw r) 0 P (Qs (wr c) a' (Exit.then (fun a'' w'' => I a'' w'' ∧ μ a'' w'' < μ a' w') Q)) a' w') : (Code.loop c).wpIn (Fw r) 0 P (Qs (wr c) a Q) a w := by
  refine wpIn_loop (fun a' w' => Ag (wr c) a a' ∧ I a' w') μ ⟨Ag.refl _ _, h0⟩ fun a' w' ⟨hag, hI⟩ => wpIn_mono (hr a' w' hag hI) fun e a'' w'' he => ?_
  cases e
  · exact ⟨⟨hag.trans he.2, he.1.1⟩, he.1.2⟩
  · exact ⟨he.1, hag.trans he.2⟩
  · exact ⟨he.1, hag.trans he.2⟩
  · exact ⟨he.1, hag.trans he.2⟩
  · exact ⟨he.1, he.2.trans hag.defers⟩
  · exact he
def XRes (P : Program) (rs : List (Value × Option TypeId)) (w : World) (K : Value → World → Prop) : Prop :=
  ∃ v, (do
    let vs ← rs.toArray.mapM fun (x, t) => match t with
      | none => pure x
      | some t => do loadVar t (← asAddr x)
    pure (if h : vs.size = 1 then vs[0] else .tuple vs) : Sem Value).run P w = .ok v w ∧ K v w
def resG (ρ : Env) (r : ResultVar) : Value × Option TypeId := match r with
  | .tmp t => (ρ t, none)
  | .cell x t => (ρ x, some t)
def resQ (P : Program) (rs : Array ResultVar) (ρ : Env) (w : World) (K : Value → World → Prop) : Prop :=
  match rs.toList with
  | [] => K (.tuple #[]) w
  | [.tmp t] => K (ρ t) w
  | [.tmp t, .tmp u] => K (.tuple #[ρ t, ρ u]) w
  | [.tmp t, .tmp u, .tmp x] => K (.tuple #[ρ t, ρ u, ρ x]) w
  | l => XRes P (l.map (resG ρ)) w K
theorem results_of_resQ {P : Program} {fn : Func} {a : Act} {w : World} {K : Value → World → Prop} (h : resQ P fn.results (gt a) w K) : ∃ v, (results fn a.tmps).run P w = .ok v w ∧ K v w := by
  have key : ∀ (l : List ResultVar), XRes P (l.map (resG (gt a))) w K →
      ∃ v, (do
        let vs ← l.toArray.mapM (fun r => match r with
          | .tmp t => (pure (a.tmps.getD t undef) : Sem Value)
          | .cell a' t => (do loadVar t (← asAddr (a.tmps.getD a' undef))))
        pure (if h : vs.size = 1 then vs[0] else .tuple vs) : Sem Value).run P w = .ok v w ∧ K v w := by
    intro l h
    unfold XRes at h
    rw [← List.map_toArray, Array.mapM_map] at h
    have e : ((fun (x : Value × Option TypeId) => match x with | (x, t) => match t with
        | none => (pure x : Sem Value)
        | some t => (do loadVar t (← asAddr x))) ∘ resG (gt a)) = (fun r => match r with
          | .tmp t => (pure (a.tmps.getD t undef) : Sem Value)
          | .cell a' t => (do loadVar t (← asAddr (a.tmps.getD a' undef)))) := by
      funext r
      cases r <;> rfl
    rw [← e]
    exact h
  unfold results
  unfold resQ at h
  have e0 : fn.results = fn.results.toList.toArray := by simp
  rw [e0]
  generalize fn.results.toList = l at *
  match l, h with
  | [], h => refine ⟨_, ?_, h⟩; simp
  | [.tmp t], h => refine ⟨_, ?_, h⟩; simp [gt]
  | [.tmp t, .tmp u], h => refine ⟨_, ?_, h⟩; simp [gt]
  | [.tmp t, .tmp u, .tmp x], h => refine ⟨_, ?_, h⟩; simp [gt]
  | [.cell a t], h => exact key _ h
  | [.cell a t, x], h => exact key _ h
  | [.tmp a, .cell b t], h => exact key _ h
  | .cell a t :: x :: y :: l, h => exact key _ h
  | .tmp a :: .cell b t :: y :: l, h => exact key _ h
  | .tmp a :: .tmp b :: .cell c t :: l, h => exact key _ h
  | .tmp a :: .tmp b :: .tmp c :: x :: l, h => exact key _ h
def QF (P : Program) (fn : Func) (K : Value → World → Prop) (E : List PanicEntry → World → Prop) : Exit → Act → World → Prop
  | .normal, a, w | .ret, a, w => resQ P fn.results (gt a) w K
  | .panic ch, _, w => E ch w
  | _, _, _ => False
def C (P : Program) (f : FuncId) (args : Array Value) (w : World) (K : Value → World → Prop) (E : List PanicEntry → World → Prop) : Prop :=
  Calls P f args w fun
    | .returned v, w' => K v w'
    | .panicked ch, w' => E ch w'
    | .outgrown, _ => False
theorem C_of {P : Program} {f : FuncId} {fn : Func} {c : Code} {args : Array Value} {w : World} {K : Value → World → Prop} {E : List PanicEntry → World → Prop}
    (hf : P.funcs[f]? = some fn) (hb : fn.body = some c)
    (h : c.wpIn (Fw none) 0 P (Qs (wr c) { tmps := args ++ Array.replicate (fn.ntmps - args.size) undef, defers := [] } (QF P fn K E)) { tmps := args ++ Array.replicate (fn.ntmps - args.size) undef, defers := [] } w) : C P f args w K E := by
  refine callsIn_wide.1 (callsIn_of_wp (n := 0) hf hb trivial (wpIn_mono h fun e a w he => ?_))
  cases e <;> simp only [Qs, QF] at he ⊢
  · obtain ⟨v, h1, h2⟩ := results_of_resQ he.1
    exact ⟨by rw [he.2.defers], v, h1, h2⟩
  · exact he.1.elim
  · exact he.1.elim
  · obtain ⟨v, h1, h2⟩ := results_of_resQ he.1
    exact ⟨by rw [he.2.defers], v, h1, h2⟩
  · exact ⟨he.2, he.1⟩
end Go.Eng
namespace Go.Eng
def setBlk (w : World) (b : Nat) (o : Obj) : World := { w with heap := w.heap.setIfInBounds b o }
abbrev blk (w : World) (r : Nat) : Option Obj := w.heap[r]?
theorem lt_of_blk {w : World} {r : Nat} {o : Obj} (h : w.heap[r]? = some o) : r < w.heap.size := (Array.getElem?_eq_some_iff.1 h).1
theorem blk_set_same {w : World} {b : Nat} {o : Obj} (h : b < w.heap.size) : (setBlk w b o).heap[b]? = some o := by simp [setBlk, h]
theorem blk_set_ne {w : World} {b r : Nat} {o : Obj} (h : r ≠ b) : (setBlk w b o).heap[r]? = w.heap[r]? := by simp [setBlk, Array.getElem?_setIfInBounds_ne (Ne.symm h)]
theorem size_set {w : World} {b : Nat} {o : Obj} : (setBlk w b o).heap.size = w.heap.size := by simp [setBlk]
theorem blk_alloc_new {w : World} {o : Obj} : (w.alloc o).heap[w.heap.size]? = some o := heap_alloc_new w o
theorem blk_alloc_old {w : World} {o : Obj} {r : Nat} (h : r < w.heap.size) : (w.alloc o).heap[r]? = w.heap[r]? := by
  simp only [World.alloc]; rw [Array.getElem?_push, if_neg (by omega)]
theorem size_alloc {w : World} {o : Obj} : (w.alloc o).heap.size = w.heap.size + 1 := by simp
abbrev drw (w : World) : World := { w with drawn := w.drawn + 1 }
structure Fr (S : Nat → Prop) (w w' : World) : Prop where
  os : w'.os = w.os
  tape : w'.tape = w.tape
  output : w'.output = w.output
  size : w.heap.size ≤ w'.heap.size
  blk : ∀ r, r < w.heap.size → ¬ S r → w'.heap[r]? = w.heap[r]?
abbrev Ext (w w' : World) : Prop := Fr (fun _ => False) w w'
theorem Fr.refl (S : Nat → Prop) (w : World) : Fr S w w := ⟨rfl, rfl, rfl, Nat.le_refl _, fun _ _ _ => rfl⟩
theorem Fr.trans {S : Nat → Prop} {a b c : World} (h : Fr S a b) (k : Fr S b c) : Fr S a c :=
  ⟨k.os.trans h.os, k.tape.trans h.tape, k.output.trans h.output, Nat.le_trans h.size k.size, fun r hr hs => (k.blk r (Nat.lt_of_lt_of_le hr h.size) hs).trans (h.blk r hr hs)⟩
theorem Fr.trans' {S T : Nat → Prop} {a b c : World} (h : Fr S a b) (k : Fr T b c) (hT : ∀ r, T r → r < a.heap.size → S r) : Fr S a c :=
  ⟨k.os.trans h.os, k.tape.trans h.tape, k.output.trans h.output, Nat.le_trans h.size k.size, fun r hr hs => (k.blk r (Nat.lt_of_lt_of_le hr h.size) (fun ht => hs (hT r ht hr))).trans (h.blk r hr hs)⟩
theorem Fr.mono {S T : Nat → Prop} {a b : World} (h : Fr S a b) (hT : ∀ r, r < a.heap.size → S r → T r) : Fr T a b := ⟨h.os, h.tape, h.output, h.size, fun r hr hs => h.blk r hr fun k => hs (hT r hr k)⟩
theorem Fr.of_ext {S : Nat → Prop} {a b : World} (h : Ext a b) : Fr S a b := h.mono fun _ _ k => k.elim
theorem Fr.drw {S : Nat → Prop} {a b : World} (h : Fr S a b) : Fr S a (drw b) := ⟨h.os, h.tape, h.output, h.size, h.blk⟩
theorem Fr.alloc {S : Nat → Prop} {a b : World} (h : Fr S a b) (o : Obj) : Fr S a (b.alloc o) :=
  ⟨h.os, h.tape, h.output, by rw [size_alloc]; exact Nat.le_succ_of_le h.size, fun r hr hs => (blk_alloc_old (Nat.lt_of_lt_of_le hr h.size)).trans (h.blk r hr hs)⟩
theorem Fr.set {S : Nat → Prop} {a b : World} (h : Fr S a b) {r : Nat} (hr : r < a.heap.size → S r) (o : Obj) : Fr S a (setBlk b r o) :=
  ⟨h.os, h.tape, h.output, by rw [size_set]; exact h.size, fun k hk hs => (blk_set_ne (fun e => hs (by subst e; exact hr hk))).trans (h.blk k hk hs)⟩
theorem Fr.grown {S : Nat → Prop} {a b c : World} {row : Option Nat} (h : Fr S a b) (g : b.grownBy c row) (hr : ∀ r, row = some r → r < a.heap.size → S r) : Fr S a c :=
  ⟨g.os.trans h.os, g.tape.trans h.tape, g.output.trans h.output, Nat.le_trans h.size g.size, fun k hk hs => (g.block k (Nat.lt_of_lt_of_le hk h.size) (fun e => hs (hr k e.symm hk))).trans (h.blk k hk hs)⟩
theorem Ext.at {S : Nat → Prop} {w w' : World} (h : Fr S w w') {r : Nat} {o : Obj} (hr : w.heap[r]? = some o) (hs : ¬ S r) : w'.heap[r]? = some o := (h.blk r (lt_of_blk hr) hs).trans hr
theorem Ext.get {w w' : World} (h : Ext w w') {r : Nat} {o : Obj} (hr : w.heap[r]? = some o) : w'.heap[r]? = some o := Ext.at h hr id
theorem cell_of {w : World} {b o : Nat} {c : Array Value} {t : TypeId} {fz : Nat × Nat} (hb : w.heap[b]? = some (.cells c t fz)) : w.cell? ⟨b, o, none⟩ = c[o]? := by simp [World.cell?, hb]
theorem setRow_eq {w : World} {b : Nat} {c cs : Array Value} {t : TypeId} {fz : Nat × Nat} (hb : w.heap[b]? = some (.cells c t fz)) : w.setRow b cs = setBlk w b (.cells cs t fz) := by
  unfold World.setRow setBlk
  congr 1
  apply Array.ext
  · simp
  · intro i h1 h2
    have hlt := lt_of_blk hb
    have hbb : w.heap[b] = .cells c t fz := by
      have := hb; rw [Array.getElem?_eq_getElem hlt] at this; exact Option.some.inj this
    by_cases e : b = i
    · subst e
      simp [Array.getElem_modify, hbb]
    · rw [Array.getElem_modify, Array.getElem_setIfInBounds]; simp [e]; simpa using h1
section
variable {P : Program} {ty : TypeId} {w : World} {K : Value → World → Prop} {E : List PanicEntry → World → Prop}
theorem X.run {c : Cop} {v : Value} {w' : World} (hr : (c.sem ty).run P w = .ok (.value v) w') (h : K v w') : X P c ty w K E := ⟨by unfold X0; rw [hr]; exact h⟩
theorem X.skip {c : Cop} {w' : World} (hr : (c.sem ty).run P w = .ok .skip w') (h : K undef w') : X P c ty w K E := ⟨by unfold X0; rw [hr]; exact h⟩
theorem X.call {c : Cop} {f : FuncId} {args : Array Value} {w' : World} (hr : (c.sem ty).run P w = .ok (.enter f args) w') (h : C P f args w' K E) : X P c ty w K E := ⟨by unfold X0; rw [hr]; exact h⟩
theorem C_mono {f : FuncId} {args : Array Value} {K' : Value → World → Prop} {E' : List PanicEntry → World → Prop} (h : C P f args w K E) (hk : ∀ v w, K v w → K' v w) (he : ∀ c w, E c w → E' c w) : C P f args w K' E' :=
  Calls.mono h fun e w' h => by cases e <;> first | exact hk _ _ h | exact he _ _ h | exact h
theorem Cnd.yes {T F : Prop} (h : T) : Cnd (.bool true) T F := ⟨h⟩
theorem Cnd.no {T F : Prop} (h : F) : Cnd (.bool false) T F := ⟨h⟩
theorem XG.yes {b : Bool} {c : Cop} (h : X P c ty w K E) : XG (some (.bool b)) b P c ty w K E := ⟨by unfold XG0; simp only [if_true]; exact h.out⟩
theorem XG.no {b b' : Bool} {c : Cop} (hb : b ≠ b') (h : K undef w) : XG (some (.bool b)) b' P c ty w K E := ⟨by unfold XG0; simp only [hb, if_false]; exact h⟩
theorem XG.undef {b' : Bool} {c : Cop} (h : K undef w) : XG (some undef) b' P c ty w K E := ⟨h⟩
theorem XQG.yes {b : Bool} {c : Cop} {K : Value → Prop} (h : XQ P c ty w K) : XQG (some (.bool b)) b P c ty w K := ⟨by unfold XQG0; simp only [if_true]; exact h.out⟩
theorem XQG.no {b b' : Bool} {c : Cop} {K : Value → Prop} (hb : b ≠ b') (h : K Go.undef) : XQG (some (.bool b)) b' P c ty w K := ⟨by unfold XQG0; simp only [hb, if_false]; exact h⟩
theorem x_val {v : Value} (h : K v w) : X P (.val v) ty w K E := .run rfl h
end
section
variable {P : Program} {ty : TypeId} {w : World}
theorem r_nil {a : Addr} : ((Cop.nilCheck (.pointer (some a))).sem ty).run P w = .ok (.value (.pointer (some a))) w := rfl
theorem r_pickT {a b : Value} : ((Cop.pick (.bool true) a b).sem ty).run P w = .ok (.value a) w := rfl
theorem r_pickF {a b : Value} : ((Cop.pick (.bool false) a b).sem ty).run P w = .ok (.value b) w := rfl
theorem r_not {b : Bool} : ((Cop.un .not (.bool b)).sem ty).run P w = .ok (.value (.bool (!b))) w := rfl
theorem r_neg {k : IntKind} {n : Int} : ((Cop.un .neg (.int k n)).sem ty).run P w = .ok (.value (.int k (k.wrap (0 - n)))) w := rfl
theorem r_mkFunc {fn : Fn} {a b : Array Value} : ((Cop.mkFunc fn a b).sem ty).run P w = .ok (.value (.func fn a b)) w := rfl
section
variable {t : TypeId} {cx cy : Bool} {k : IntKind} {a b : Int}
theorem r_add : ((Cop.bin .add t cx cy (.int k a) (.int k b)).sem ty).run P w = .ok (.value (.int k (k.wrap (a + b)))) w := by simp [Cop.sem, eqG, eqGuard, binOp, Op.intArith, Sem.run, bind, Sem.bind, pure]
theorem r_sub : ((Cop.bin .sub t cx cy (.int k a) (.int k b)).sem ty).run P w = .ok (.value (.int k (k.wrap (a - b)))) w := by simp [Cop.sem, eqG, eqGuard, binOp, Op.intArith, Sem.run, bind, Sem.bind, pure]
theorem r_mul : ((Cop.bin .mul t cx cy (.int k a) (.int k b)).sem ty).run P w = .ok (.value (.int k (k.wrap (a * b)))) w := by simp [Cop.sem, eqG, eqGuard, binOp, Op.intArith, Sem.run, bind, Sem.bind, pure]
theorem r_quo (h : b ≠ 0) : ((Cop.bin .quo t cx cy (.int k a) (.int k b)).sem ty).run P w = .ok (.value (.int k (k.wrap (a.tdiv b)))) w := by simp [Cop.sem, eqG, eqGuard, binOp, Op.intDiv, h, Sem.run, bind, Sem.bind, pure]
theorem r_rem (h : b ≠ 0) : ((Cop.bin .rem t cx cy (.int k a) (.int k b)).sem ty).run P w = .ok (.value (.int k (a.tmod b))) w := by simp [Cop.sem, eqG, eqGuard, binOp, Op.intDiv, h, Sem.run, bind, Sem.bind, pure]
theorem r_eql : ((Cop.bin .eql t cx cy (.int k a) (.int k b)).sem ty).run P w = .ok (.value (.bool (decide (a = b)))) w := by
  have e : (a == b) = decide (a = b) := by by_cases h : a = b <;> simp [h]
  simp [Cop.sem, eqG, eqGuard, binOp, Op.intCmp, Sem.run, bind, Sem.bind, pure, e]
theorem r_neq : ((Cop.bin .neq t cx cy (.int k a) (.int k b)).sem ty).run P w = .ok (.value (.bool (!decide (a = b)))) w := by
  have e : (a != b) = !decide (a = b) := by by_cases h : a = b <;> simp [h]
  simp [Cop.sem, eqG, eqGuard, binOp, Op.intCmp, Sem.run, bind, Sem.bind, pure, e]
theorem r_lss : ((Cop.bin .lss t cx cy (.int k a) (.int k b)).sem ty).run P w = .ok (.value (.bool (decide (a < b)))) w := by simp [Cop.sem, eqG, eqGuard, binOp, Op.intCmp, Sem.run, bind, Sem.bind, pure]
theorem r_leq : ((Cop.bin .leq t cx cy (.int k a) (.int k b)).sem ty).run P w = .ok (.value (.bool (decide (a ≤ b)))) w := by simp [Cop.sem, eqG, eqGuard, binOp, Op.intCmp, Sem.run, bind, Sem.bind, pure]
theorem r_gtr : ((Cop.bin .gtr t cx cy (.int k a) (.int k b)).sem ty).run P w = .ok (.value (.bool (decide (b < a)))) w := by simp [Cop.sem, eqG, eqGuard, binOp, Op.intCmp, Sem.run, bind, Sem.bind, pure]
theorem r_geq : ((Cop.bin .geq t cx cy (.int k a) (.int k b)).sem ty).run P w = .ok (.value (.bool (decide (b ≤ a)))) w := by simp [Cop.sem, eqG, eqGuard, binOp, Op.intCmp, Sem.run, bind, Sem.bind, pure]
theorem r_shl {k' : IntKind} (h : 0 ≤ b) : ((Cop.bin .shl t cx cy (.int k a) (.int k' b)).sem ty).run P w = .ok (.value (.int k (k.wrap (a * 2 ^ (min b.toNat k.bits))))) w := by
  have h' : ¬ b < 0 := by omega
  simp [Cop.sem, eqG, eqGuard, binOp, Op.shift, h', Sem.run, bind, Sem.bind, pure]
theorem r_shr {k' : IntKind} (h : 0 ≤ b) : ((Cop.bin .shr t cx cy (.int k a) (.int k' b)).sem ty).run P w = .ok (.value (.int k (a.fdiv (2 ^ (min b.toNat k.bits))))) w := by
  have h' : ¬ b < 0 := by omega
  simp [Cop.sem, eqG, eqGuard, binOp, Op.shift, h', Sem.run, bind, Sem.bind, pure]
end
theorem r_eqlB {t : TypeId} {cx cy : Bool} {a b : Value} {r : Bool} (hg : (eqG .eql t cx cy a b).run P w = .ok () w) (ho : (binOp .eql t a b).run P w = .ok (.bool r) w) :
    ((Cop.bin .eql t cx cy a b).sem ty).run P w = .ok (.value (.bool r)) w := by
  simp only [Cop.sem, Sem.run_bind, hg, Result.andThen_ok, ho, Sem.run_pure]
theorem r_neqB {t : TypeId} {cx cy : Bool} {a b : Value} {r : Bool} (hg : (eqG .neq t cx cy a b).run P w = .ok () w) (ho : (binOp .neq t a b).run P w = .ok (.bool r) w) :
    ((Cop.bin .neq t cx cy a b).sem ty).run P w = .ok (.value (.bool r)) w := by
  simp only [Cop.sem, Sem.run_bind, hg, Result.andThen_ok, ho, Sem.run_pure]
theorem r_conv {s d : TypeId} {k k' : IntKind} {n : Int} {u : TypeDesc} (hs : P.underlying s = some u) (hd : P.underlying d = some (.int k')) :
    ((Cop.conv s d (.int k n)).sem ty).run P w = .ok (.value (.int k' (k'.wrap n))) w := by
  simp [Cop.sem, convert, underlying, hs, hd, Conv.intToInt, Sem.run, bind, Sem.bind, pure, program]
theorem r_field {t : TypeId} {b o f : Nat} {fs : Array Field} {fd : Field} {n : Nat} (hu : P.underlying t = some (.struct fs)) (hf : fs[f]? = some fd) (hs : (P.info? fd.type).map (·.size) = some n) (hn : n ≠ 0) :
    ((Cop.fieldAddr t (.pointer (some ⟨b, o, none⟩)) f).sem ty).run P w = .ok (.value (.pointer (some ⟨b, o + fd.offset, none⟩))) w := by
  cases hi : P.info? fd.type with
  | none => rw [hi] at hs; cases hs
  | some i =>
    have he : i.size = n := by rw [hi] at hs; exact Option.some.inj hs
    have hadd : (⟨b, o, none⟩ : Addr).add fd.offset = ⟨b, o + fd.offset, none⟩ := by unfold Addr.add; split <;> simp_all
    simp [Cop.sem, Instr.fieldAt, Instr.sureAddr, fieldPlace, sizeOf, typeInfo, underlying, hu, hf, hi, he, hn, hadd, Sem.run, bind, Sem.bind, pure, program]
end
end Go.Eng
namespace Go.Eng
def aggB : TypeDesc → Bool
  | .struct _ => true
  | .array _ _ => true
  | _ => false
def lay (c : Array Value) (o : Nat) (vs : List Value) : Array Value := (c.toList.take o ++ vs ++ c.toList.drop (o + vs.length)).toArray
theorem lay_size {c : Array Value} {o : Nat} {vs : List Value} (h : o + vs.length ≤ c.size) : (lay c o vs).size = c.size := by
  simp [lay]; omega
theorem lay_in {c : Array Value} {o : Nat} {vs : List Value} (h : o + vs.length ≤ c.size) {j : Nat} (hj : j < vs.length) : (lay c o vs)[o + j]? = vs[j]? := by
  simp only [lay, List.getElem?_toArray, List.append_assoc]
  rw [List.getElem?_append_right (by simp; omega), List.getElem?_append_left (by simp; omega)]
  congr 1
  simp; omega
theorem lay_out {c : Array Value} {o : Nat} {vs : List Value} (h : o + vs.length ≤ c.size) {i : Nat} (hi : i < o ∨ o + vs.length ≤ i) : (lay c o vs)[i]? = c[i]? := by
  simp only [lay, List.getElem?_toArray, List.append_assoc]
  rcases hi with hi | hi
  · rw [List.getElem?_append_left (by simp; omega), List.getElem?_take, if_pos hi]
    simp
  · rw [List.getElem?_append_right (by simp; omega), List.getElem?_append_right (by simp; omega), List.getElem?_drop]
    simp only [List.length_take, Array.length_toList]
    rw [show o + vs.length + (i - min o c.size - vs.length) = i by omega]
    simp
theorem lay_all {c : Array Value} {vs : List Value} (h : vs.length = c.size) : lay c 0 vs = vs.toArray := by
  simp only [lay, List.take_zero, List.nil_append, Nat.zero_add, h]
  rw [List.drop_of_length_le (by simp)]
  simp
theorem lay_one {c : Array Value} {o : Nat} {v : Value} (h : o < c.size) : lay c o [v] = c.setIfInBounds o v := by
  apply Array.ext'
  simp only [lay, Array.toList_setIfInBounds, List.length_singleton]
  rw [List.set_eq_take_append_cons_drop, if_pos (by simpa using h)]
  simp
section
variable {P : Program} {ty : TypeId} {w : World}
theorem run_isAgg {t : TypeId} {d : TypeDesc} (hu : P.underlying t = some d) : (isAgg t).run P w = .ok (aggB d) w := by
  unfold isAgg
  rw [Sem.run_bind, run_underlying hu w]
  cases d <;> simp [aggB]
theorem add_lit (b o n : Nat) : (⟨b, o, none⟩ : Addr).add n = ⟨b, o + n, none⟩ := by unfold Addr.add; split <;> simp_all
theorem run_load1 {t : TypeId} {d : TypeDesc} {b o : Nat} {c : Array Value} {T : TypeId} {fz : Nat × Nat} {v : Value} (hu : P.underlying t = some d) (hd : aggB d = false)
    (hb : w.heap[b]? = some (.cells c T fz)) (hc : c[o]? = some v) : (loadVar t ⟨b, o, none⟩).run P w = .ok v w := by
  have hcell : w.cell? ⟨b, o, none⟩ = some v := by rw [cell_of hb, hc]
  simp [loadVar, Sem.run_bind, run_isAgg hu, hd, load, Sem.run, hcell]
theorem run_loadA {t : TypeId} {d : TypeDesc} {b o n : Nat} {c : Array Value} {T : TypeId} {fz : Nat × Nat} (hu : P.underlying t = some d) (hd : aggB d = true) (hn : (P.info? t).map (·.size) = some n)
    (hb : w.heap[b]? = some (.cells c T fz)) (hc : o + n ≤ c.size) : (loadVar t ⟨b, o, none⟩).run P w = .ok (.agg (c.extract o (o + n))) w := by
  cases hi : P.info? t with
  | none => rw [hi] at hn; cases hn
  | some i =>
    have he : i.size = n := by rw [hi] at hn; exact Option.some.inj hn
    have hlen : (c.extract o (o + n)).toList.length = n := by simp; omega
    have hl : (loadCells ⟨b, o, none⟩ n).run P w = .ok (c.extract o (o + n)) w := by
      have := run_loadCells_list (P := P) w ⟨b, o, none⟩ (c.extract o (o + n)).toList (fun j v hv => by
        rw [add_lit, cell_of hb]
        have hj : j < n := by
          have := (List.getElem?_eq_some_iff.1 hv).1
          omega
        rw [Array.getElem?_toList, Array.getElem?_extract_of_lt (by omega)] at hv
        rw [Array.getElem?_eq_getElem (by omega)]
        exact hv)
      rw [hlen] at this
      rw [this, Array.toArray_toList]
    simp [loadVar, Sem.run_bind, run_isAgg hu, hd, sizeOf, typeInfo, hi, he, hl]
theorem r_load1 {t : TypeId} {d : TypeDesc} {b o : Nat} {c : Array Value} {T : TypeId} {fz : Nat × Nat} {v : Value} (hu : P.underlying t = some d) (hd : aggB d = false)
    (hb : w.heap[b]? = some (.cells c T fz)) (hc : c[o]? = some v) : ((Cop.load t (.pointer (some ⟨b, o, none⟩))).sem ty).run P w = .ok (.value v) w := by
  simp [Cop.sem, Instr.loadAt, Instr.sureAddr, run_load1 hu hd hb hc]
theorem r_loadA {t : TypeId} {d : TypeDesc} {b o n : Nat} {c : Array Value} {T : TypeId} {fz : Nat × Nat} (hu : P.underlying t = some d) (hd : aggB d = true) (hn : (P.info? t).map (·.size) = some n)
    (hb : w.heap[b]? = some (.cells c T fz)) (hc : o + n ≤ c.size) : ((Cop.load t (.pointer (some ⟨b, o, none⟩))).sem ty).run P w = .ok (.value (.agg (c.extract o (o + n)))) w := by
  simp [Cop.sem, Instr.loadAt, Instr.sureAddr, run_loadA hu hd hn hb hc]
def one (v : Value) : Bool := v.oneCell'
theorem run_storeL {b o : Nat} {c : Array Value} {T : TypeId} {vs : List Value} (hb : w.heap[b]? = some (.cells c T (0, 0))) (ho : o + vs.length ≤ c.size) (h1 : ∀ v ∈ vs, v.oneCell' = true) :
    (storeCells ⟨b, o, none⟩ vs 0).run P w = .ok () (setBlk w b (.cells (lay c o vs) T (0, 0))) := by
  have := run_storeCells_at P b o T vs 0 c w hb (by simpa using ho) h1
  rw [this, setRow_eq hb]
  simp [lay]
theorem r_store1 {t : TypeId} {b o : Nat} {c : Array Value} {T : TypeId} {v : Value} (hn : (P.info? t).map (·.size) = some 1) (h1 : v.oneCell' = true)
    (hb : w.heap[b]? = some (.cells c T (0, 0))) (ho : o < c.size) : ((Cop.store t (.pointer (some ⟨b, o, none⟩)) v).sem ty).run P w = .ok .skip (setBlk w b (.cells (c.setIfInBounds o v) T (0, 0))) := by
  have hcs : v.cells = #[v] := by cases v <;> simp_all [Value.cells, Value.oneCell']
  have hst := run_storeL (P := P) (vs := [v]) hb (by simpa using Nat.succ_le_of_lt ho) (by simpa using h1)
  cases hi : P.info? t with
  | none => rw [hi] at hn; cases hn
  | some i =>
    have he : i.size = 1 := by rw [hi] at hn; exact Option.some.inj hn
    simp [Cop.sem, Instr.storeAt, Instr.sureAddr, storeVar, sizeOf, typeInfo, hi, he, hcs, hst, lay_one ho]
theorem r_storeA {t : TypeId} {b o n : Nat} {c vs : Array Value} {T : TypeId} (hn : (P.info? t).map (·.size) = some n) (hvs : vs.size = n) (h1 : ∀ v ∈ vs.toList, v.oneCell' = true)
    (hb : w.heap[b]? = some (.cells c T (0, 0))) (ho : o + n ≤ c.size) : ((Cop.store t (.pointer (some ⟨b, o, none⟩)) (.agg vs)).sem ty).run P w = .ok .skip (setBlk w b (.cells (lay c o vs.toList) T (0, 0))) := by
  have hst := run_storeL (P := P) (vs := vs.toList) hb (by simp [hvs]; exact ho) h1
  cases hi : P.info? t with
  | none => rw [hi] at hn; cases hn
  | some i =>
    have he : i.size = n := by rw [hi] at hn; exact Option.some.inj hn
    simp [Cop.sem, Instr.storeAt, Instr.sureAddr, storeVar, sizeOf, typeInfo, hi, he, hvs, Value.cells, hst]
theorem r_storeW {t : TypeId} {b n : Nat} {c vs : Array Value} {T : TypeId} (hn : (P.info? t).map (·.size) = some n) (hvs : vs.size = n) (h1 : ∀ v ∈ vs.toList, v.oneCell' = true)
    (hb : w.heap[b]? = some (.cells c T (0, 0))) (hc : c.size = n) : ((Cop.store t (.pointer (some ⟨b, 0, none⟩)) (.agg vs)).sem ty).run P w = .ok .skip (setBlk w b (.cells vs T (0, 0))) := by
  rw [r_storeA hn hvs h1 hb (by omega), lay_all (by simp; omega)]
theorem r_alloc {t : TypeId} {z : Value} (hz : (P.info? t).bind (·.zero) = some z) : ((Cop.alloc t).sem ty).run P w = .ok (.value (.pointer (some ⟨w.heap.size, 0, none⟩))) (w.alloc (.cells z.cells t (0, 0))) := by
  cases hi : P.info? t with
  | none => rw [hi] at hz; cases hz
  | some i =>
    have he : i.zero = some z := by rw [hi] at hz; exact hz
    simp [Cop.sem, Instr.alloc, zeroValue, typeInfo, hi, he, newVar, newRow, newObj, Sem.run]
theorem r_box {t : TypeId} {v : Value} : ((Cop.box t v).sem ty).run P w = .ok (.value (.pointer (some ⟨w.heap.size, 0, none⟩))) (w.alloc (.cells v.cells t (0, 0))) := by
  simp [Cop.sem, Instr.box, newVar, newRow, newObj, Sem.run]
theorem r_idxS {t e : TypeId} {k : IntKind} {b o len cap sz : Nat} {i : Int} (hu : P.underlying t = some (.slice e)) (hs : (P.info? e).map (·.size) = some sz) (hi : 0 ≤ i ∧ i < len) :
    ((Cop.indexAddr t (.slice (some ⟨b, o, none⟩) len cap) (.int k i)).sem ty).run P w = .ok (.value (.pointer (some ⟨b, o + i.toNat * sz, none⟩))) w := by
  cases hq : P.info? e with
  | none => rw [hq] at hs; cases hs
  | some x =>
    have he : x.size = sz := by rw [hq] at hs; exact Option.some.inj hs
    simp [Cop.sem, Instr.indexAt, asIntOf, underlying, hu, sizeOf, typeInfo, hq, he, hi, add_lit, Sem.run, bind, Sem.bind, pure, program]
theorem r_idxA {t e : TypeId} {k : IntKind} {b o n sz : Nat} {i : Int} (hu : P.underlying t = some (.array n e)) (hs : (P.info? e).map (·.size) = some sz) (hi : 0 ≤ i ∧ i < n) :
    ((Cop.indexAddr t (.pointer (some ⟨b, o, none⟩)) (.int k i)).sem ty).run P w = .ok (.value (.pointer (some ⟨b, o + i.toNat * sz, none⟩))) w := by
  cases hq : P.info? e with
  | none => rw [hq] at hs; cases hs
  | some x =>
    have he : x.size = sz := by rw [hq] at hs; exact Option.some.inj hs
    simp [Cop.sem, Instr.indexAt, Instr.sureAddr, asIntOf, underlying, hu, sizeOf, typeInfo, hq, he, hi, add_lit, Sem.run, bind, Sem.bind, pure, program]
theorem r_index1 {t e : TypeId} {k : IntKind} {n : Nat} {i : Int} {cs : Array Value} {d : TypeDesc} {v : Value} (hu : P.underlying t = some (.array n e)) (hs : (P.info? e).map (·.size) = some 1) (hd : P.underlying e = some d) (ha : aggB d = false)
    (hi : 0 ≤ i ∧ i < n) (hv : cs[i.toNat]? = some v) : ((Cop.index t (.agg cs) (.int k i)).sem ty).run P w = .ok (.value v) w := by
  cases hq : P.info? e with
  | none => rw [hq] at hs; cases hs
  | some x =>
    have he : x.size = 1 := by rw [hq] at hs; exact Option.some.inj hs
    have hagg := run_isAgg (w := w) hd
    simp [Cop.sem, Instr.index, part, asIntOf, run_underlying hu, sizeOf, typeInfo, hq, he, hi, hagg, ha, hv]
theorem r_lenS {t ty' : TypeId} {cs : Array Bool} {e : TypeId} {a : Option Addr} {n c : Nat} (hu : P.underlying t = some (.slice e)) : ((Cop.callB .len #[t] cs #[.slice a n c]).sem ty').run P w = .ok (.value (.int .i64 n)) w := by
  simp [Cop.sem, builtin, Builtin.len_, run_underlying hu, goInt]
theorem r_capS {t ty' : TypeId} {cs : Array Bool} {e : TypeId} {a : Option Addr} {n c : Nat} (hu : P.underlying t = some (.slice e)) : ((Cop.callB .cap #[t] cs #[.slice a n c]).sem ty').run P w = .ok (.value (.int .i64 c)) w := by
  simp [Cop.sem, builtin, Builtin.cap_, run_underlying hu, goInt]
theorem r_lenM {t ty' : TypeId} {cs : Array Bool} {k e : TypeId} {r : Nat} {es : Array MapEntry} {ck : Nat} (hu : P.underlying t = some (.map k e)) (hb : w.heap[r]? = some (.map es ck)) :
    ((Cop.callB .len #[t] cs #[.map (some r)]).sem ty').run P w = .ok (.value (.int .i64 es.size)) w := by
  simp [Cop.sem, builtin, Builtin.len_, run_underlying hu, goInt, getObj, Sem.run, hb]
theorem r_min {cs : Array Bool} {ats : Array TypeId} {k : IntKind} {a b : Int} : ((Cop.callB .min ats cs #[.int k a, .int k b]).sem ty).run P w = .ok (.value (.int k (if b < a then b else a))) w := by
  simp [Cop.sem, builtin, Builtin.min_, Builtin.min2]
theorem r_sliceS {t e : TypeId} {b o len cap sz : Nat} {k k' : IntKind} {l h : Int} (hu : P.underlying t = some (.slice e)) (hs : (P.info? e).map (·.size) = some sz) (h0 : 0 ≤ l) (h1 : l ≤ h) (h2 : h ≤ cap) :
    ((Cop.slice t (.slice (some ⟨b, o, none⟩) len cap) (some (.int k l)) (some (.int k' h)) none).sem ty).run P w =
      .ok (.value (.slice (some (if cap = l.toNat then ⟨b, o, none⟩ else ⟨b, o + l.toNat * sz, none⟩)) (h.toNat - l.toNat) (cap - l.toNat))) w := by
  cases hq : P.info? e with
  | none => rw [hq] at hs; cases hs
  | some x =>
    have he : x.size = sz := by rw [hq] at hs; exact Option.some.inj hs
    have a1 : 0 ≤ h ∧ h ≤ cap := by omega
    have a2 : 0 ≤ l ∧ l ≤ h := ⟨h0, h1⟩
    have a3 : 0 ≤ l ∧ l ≤ max h 0 := by omega
    simp [Cop.sem, Instr.sliceAt, Instr.slice, Instr.sliceBounds, Instr.sliceBound, asIntOf, run_underlying hu, sizeOf, typeInfo, hq, he, a1, a3, add_lit]
    split <;> rfl
theorem r_sliceSl {t e : TypeId} {b o len cap sz : Nat} {k : IntKind} {l : Int} (hu : P.underlying t = some (.slice e)) (hs : (P.info? e).map (·.size) = some sz) (h0 : 0 ≤ l) (h1 : l ≤ len) :
    ((Cop.slice t (.slice (some ⟨b, o, none⟩) len cap) (some (.int k l)) none none).sem ty).run P w =
      .ok (.value (.slice (some (if cap = l.toNat then ⟨b, o, none⟩ else ⟨b, o + l.toNat * sz, none⟩)) (len - l.toNat) (cap - l.toNat))) w := by
  cases hq : P.info? e with
  | none => rw [hq] at hs; cases hs
  | some x =>
    have he : x.size = sz := by rw [hq] at hs; exact Option.some.inj hs
    have a2 : 0 ≤ l ∧ l ≤ len := ⟨h0, h1⟩
    simp [Cop.sem, Instr.sliceAt, Instr.slice, Instr.sliceBounds, Instr.sliceBound, asIntOf, run_underlying hu, sizeOf, typeInfo, hq, he, a2, add_lit]
    split <;> rfl
theorem r_sliceSh {t e : TypeId} {a : Option Addr} {len cap sz : Nat} {k : IntKind} {h : Int} (hu : P.underlying t = some (.slice e)) (hs : (P.info? e).map (·.size) = some sz) (h0 : 0 ≤ h) (h1 : h ≤ cap) :
    ((Cop.slice t (.slice a len cap) none (some (.int k h)) none).sem ty).run P w = .ok (.value (.slice a h.toNat cap)) w := by
  cases hq : P.info? e with
  | none => rw [hq] at hs; cases hs
  | some x =>
    have a2 : 0 ≤ h ∧ h ≤ cap := ⟨h0, h1⟩
    simp [Cop.sem, Instr.sliceAt, Instr.slice, Instr.sliceBounds, Instr.sliceBound, asIntOf, run_underlying hu, sizeOf, typeInfo, hq, a2]
    intro _
    cases a <;> simp [Addr.add]
theorem r_sliceA {t e : TypeId} {b o n sz : Nat} {k k' : IntKind} {l h : Int} (hu : P.underlying t = some (.array n e)) (hs : (P.info? e).map (·.size) = some sz) (h0 : 0 ≤ l) (h1 : l ≤ h) (h2 : h ≤ n) :
    ((Cop.slice t (.pointer (some ⟨b, o, none⟩)) (some (.int k l)) (some (.int k' h)) none).sem ty).run P w =
      .ok (.value (.slice (some (if n = l.toNat then ⟨b, o, none⟩ else ⟨b, o + l.toNat * sz, none⟩)) (h.toNat - l.toNat) (n - l.toNat))) w := by
  cases hq : P.info? e with
  | none => rw [hq] at hs; cases hs
  | some x =>
    have he : x.size = sz := by rw [hq] at hs; exact Option.some.inj hs
    have a1 : 0 ≤ h ∧ h ≤ n := by omega
    have a3 : 0 ≤ l ∧ l ≤ max h 0 := by omega
    simp [Cop.sem, Instr.sliceAt, Instr.sureAddr, Instr.sliceBounds, Instr.sliceBound, asIntOf, run_underlying hu, sizeOf, typeInfo, hq, he, a1, a3, add_lit]
theorem r_sliceAh {t e : TypeId} {b o n sz : Nat} {k' : IntKind} {h : Int} (hu : P.underlying t = some (.array n e)) (hs : (P.info? e).map (·.size) = some sz) (h0 : 0 ≤ h) (h2 : h ≤ n) :
    ((Cop.slice t (.pointer (some ⟨b, o, none⟩)) none (some (.int k' h)) none).sem ty).run P w = .ok (.value (.slice (some ⟨b, o, none⟩) h.toNat n)) w := by
  cases hq : P.info? e with
  | none => rw [hq] at hs; cases hs
  | some x =>
    have a1 : 0 ≤ h ∧ h ≤ n := by omega
    simp [Cop.sem, Instr.sliceAt, Instr.sureAddr, Instr.sliceBounds, Instr.sliceBound, asIntOf, run_underlying hu, sizeOf, typeInfo, hq, a1, add_lit]
theorem r_extract {vs : Array Value} {i : Nat} {v : Value} (h : vs[i]? = some v) : ((Cop.extract (.tuple vs) i).sem ty).run P w = .ok (.value v) w := by
  simp [Cop.sem, Instr.extract, h]
theorem r_fieldV1 {t : TypeId} {fs : Array Field} {f : Nat} {fd : Field} {d : TypeDesc} {cs : Array Value} {v : Value} (hu : P.underlying t = some (.struct fs)) (hf : fs[f]? = some fd) (hd : P.underlying fd.type = some d) (ha : aggB d = false) (hv : cs[fd.offset]? = some v) :
    ((Cop.field t (.agg cs) f).sem ty).run P w = .ok (.value v) w := by
  have hagg := run_isAgg (w := w) hd
  simp [Cop.sem, Instr.field, run_underlying hu, hf, asAgg, part, hagg, ha, hv]
theorem r_callF {f : FuncId} {args : Array Value} (h : ∀ (args : Array Value) (w : World), (callFunc f args).run P w = .ok (.enter f args) w) : ((Cop.callF f args).sem ty).run P w = .ok (.enter f args) w := h args w
theorem r_callV {f : FuncId} {args first cap : Array Value} (h : ∀ (args : Array Value) (w : World), (callFunc f args).run P w = .ok (.enter f args) w) :
    ((Cop.callV (.func (.func f) first cap) args).sem ty).run P w = .ok (.enter f ((first ++ args) ++ cap)) w := by
  simp [Cop.sem, Deferred.ofValue, invoke, h]
theorem r_makeMap0 {t : TypeId} : ((Cop.makeMap t none).sem ty).run P w = .ok (.value (.map (some w.heap.size))) (w.alloc (.map #[] 0)) := by
  simp [Cop.sem, Instr.makeMap, newObj, Sem.run]
theorem r_clearM {t k e : TypeId} {cs : Array Bool} {r : Nat} {es : Array MapEntry} {ck : Nat} (hu : P.underlying t = some (.map k e)) (hb : w.heap[r]? = some (.map es ck)) :
    ((Cop.callB .clear #[t] cs #[.map (some r)]).sem ty).run P w = .ok (.value (.tuple #[])) (setBlk w r (.map #[] ck)) := by
  simp [Cop.sem, builtin, Builtin.clear_, run_underlying hu, getObj, setObj, Sem.run, hb, setBlk]
end
end Go.Eng
namespace Go.Eng
class UT (P : Program) (t : TypeId) (d : outParam TypeDesc) : Prop where
  h : P.underlying t = some d
class SZ (P : Program) (t : TypeId) (n : outParam Nat) : Prop where
  h : (P.info? t).map (·.size) = some n
class ZC (P : Program) (t : TypeId) (z : outParam (Array Value)) : Prop where
  h : ∃ v, (P.info? t).bind (·.zero) = some v ∧ v.cells = z
class FO (P : Program) (t : TypeId) (f : Nat) (o : outParam Nat) : Prop where
  h : ∃ fs fd n, P.underlying t = some (.struct fs) ∧ fs[f]? = some fd ∧ (P.info? fd.type).map (·.size) = some n ∧ n ≠ 0 ∧ fd.offset = o
class S1 (P : Program) (t : TypeId) : Prop where
  h : ∃ d, P.underlying t = some d ∧ aggB d = false
  s : (P.info? t).map (·.size) = some 1
class SA (P : Program) (t : TypeId) (n : outParam Nat) : Prop where
  h : ∃ d, P.underlying t = some d ∧ aggB d = true
  s : (P.info? t).map (·.size) = some n
class CF (P : Program) (f : FuncId) : Prop where
  h : ∀ (args : Array Value) (w : World), (callFunc f args).run P w = .ok (.enter f args) w
theorem at_0 {a : Value} {l : List Value} : (List.toArray (a :: l))[0]? = some a := by simp
theorem at_S {a v : Value} {l : List Value} {n : Nat} (h : (List.toArray l)[n]? = some v) : (List.toArray (a :: l))[n + 1]? = some v := by simpa using h
def SetAt (c : Array Value) (o : Nat) (v : Value) (c' : Array Value) : Prop := o < c.size ∧ c' = c.setIfInBounds o v
theorem set_0 {a v : Value} {l : List Value} : SetAt (List.toArray (a :: l)) 0 v (List.toArray (v :: l)) := ⟨by simp, by simp⟩
theorem set_S {a v : Value} {l l' : List Value} {n : Nat} (h : SetAt (List.toArray l) n v (List.toArray l')) : SetAt (List.toArray (a :: l)) (n + 1) v (List.toArray (a :: l')) := by
  refine ⟨by have := h.1; simp at this ⊢; omega, ?_⟩
  have h2 := congrArg Array.toList h.2
  apply Array.ext'
  simp only [Array.toList_setIfInBounds] at h2 ⊢
  rw [List.set_cons_succ, ← h2]
theorem set_any {c : Array Value} {o : Nat} {v : Value} (h : o < c.size) : SetAt c o v (c.setIfInBounds o v) := ⟨h, rfl⟩
def SubAt (c : Array Value) (o n : Nat) (vs : Array Value) : Prop := o + n ≤ c.size ∧ vs = c.extract o (o + n)
theorem sub_nil {l : List Value} : SubAt (List.toArray l) 0 0 (List.toArray []) := ⟨by simp, by simp⟩
theorem sub_cons {a : Value} {l l' : List Value} {n : Nat} (h : SubAt (List.toArray l) 0 n (List.toArray l')) : SubAt (List.toArray (a :: l)) 0 (n + 1) (List.toArray (a :: l')) := by
  refine ⟨by have := h.1; simp at this ⊢; omega, ?_⟩
  have h2 := congrArg Array.toList h.2
  apply Array.ext'
  simp at h2 ⊢
  rw [h2]
def LayAt (c : Array Value) (o : Nat) (vs c' : Array Value) : Prop := o + vs.size ≤ c.size ∧ c' = lay c o vs.toList
theorem lay_any {c vs : Array Value} {o : Nat} (h : o + vs.size ≤ c.size) : LayAt c o vs (lay c o vs.toList) := ⟨h, rfl⟩
theorem lay_nil {l : List Value} : LayAt (List.toArray l) 0 (List.toArray []) (List.toArray l) := ⟨by simp, by simp [lay]⟩
theorem lay_cons {a v : Value} {l l' vs : List Value} (h : LayAt (List.toArray l) 0 (List.toArray vs) (List.toArray l')) : LayAt (List.toArray (a :: l)) 0 (List.toArray (v :: vs)) (List.toArray (v :: l')) := by
  refine ⟨by have := h.1; simp at this ⊢; omega, ?_⟩
  have h2 := congrArg Array.toList h.2
  apply Array.ext'
  simp [lay] at h2 ⊢
  rw [h2]
section
variable {P : Program} {ty : TypeId} {w : World} {K : Value → World → Prop} {E : List PanicEntry → World → Prop}
theorem x_nil {a : Addr} (h : K (.pointer (some a)) w) : X P (.nilCheck (.pointer (some a))) ty w K E := .run r_nil h
theorem x_pickT {a b : Value} (h : K a w) : X P (.pick (.bool true) a b) ty w K E := .run r_pickT h
theorem x_pickF {a b : Value} (h : K b w) : X P (.pick (.bool false) a b) ty w K E := .run r_pickF h
theorem x_notT (h : K (.bool false) w) : X P (.un .not (.bool true)) ty w K E := .run r_not h
theorem x_notF (h : K (.bool true) w) : X P (.un .not (.bool false)) ty w K E := .run r_not h
theorem x_mkFunc {fn : Fn} {a b : Array Value} (h : K (.func fn a b) w) : X P (.mkFunc fn a b) ty w K E := .run r_mkFunc h
section
variable {t : TypeId} {cx cy : Bool} {k k' : IntKind} {a b : Int}
theorem x_addN (hw : k.wrap (a + b) = a + b) (h : K (.int k (a + b)) w) : X P (.bin .add t cx cy (.int k a) (.int k b)) ty w K E := .run r_add (by rw [hw]; exact h)
theorem x_add (h : K (.int k (k.wrap (a + b))) w) : X P (.bin .add t cx cy (.int k a) (.int k b)) ty w K E := .run r_add h
theorem x_subN (hw : k.wrap (a - b) = a - b) (h : K (.int k (a - b)) w) : X P (.bin .sub t cx cy (.int k a) (.int k b)) ty w K E := .run r_sub (by rw [hw]; exact h)
theorem x_sub (h : K (.int k (k.wrap (a - b))) w) : X P (.bin .sub t cx cy (.int k a) (.int k b)) ty w K E := .run r_sub h
theorem x_mulN (hw : k.wrap (a * b) = a * b) (h : K (.int k (a * b)) w) : X P (.bin .mul t cx cy (.int k a) (.int k b)) ty w K E := .run r_mul (by rw [hw]; exact h)
theorem x_mul (h : K (.int k (k.wrap (a * b))) w) : X P (.bin .mul t cx cy (.int k a) (.int k b)) ty w K E := .run r_mul h
theorem x_quoN (h0 : 0 ≤ a) (hb : 0 < b) (hw : k.wrap (a / b) = a / b) (h : K (.int k (a / b)) w) : X P (.bin .quo t cx cy (.int k a) (.int k b)) ty w K E :=
  .run (r_quo (by omega)) (by rw [Int.tdiv_eq_ediv_of_nonneg h0, hw]; exact h)
theorem x_remN (h0 : 0 ≤ a) (hb : 0 < b) (h : K (.int k (a % b)) w) : X P (.bin .rem t cx cy (.int k a) (.int k b)) ty w K E :=
  .run (r_rem (by omega)) (by rw [Int.tmod_eq_emod_of_nonneg h0]; exact h)
theorem x_shlN (h0 : 0 ≤ b) (h1 : b ≤ k.bits) (hw : k.wrap (a * 2 ^ b.toNat) = a * 2 ^ b.toNat) (h : K (.int k (a * 2 ^ b.toNat)) w) : X P (.bin .shl t cx cy (.int k a) (.int k' b)) ty w K E :=
  .run (r_shl h0) (by rw [show min b.toNat k.bits = b.toNat by omega, hw]; exact h)
theorem x_shl (h0 : 0 ≤ b) (h1 : b ≤ k.bits) (h : K (.int k (k.wrap (a * 2 ^ b.toNat))) w) : X P (.bin .shl t cx cy (.int k a) (.int k' b)) ty w K E :=
  .run (r_shl h0) (by rw [show min b.toNat k.bits = b.toNat by omega]; exact h)
theorem x_shr (h0 : 0 ≤ b) (h1 : b ≤ k.bits) (h : K (.int k (a / 2 ^ b.toNat)) w) : X P (.bin .shr t cx cy (.int k a) (.int k' b)) ty w K E :=
  .run (r_shr h0) (by rw [show min b.toNat k.bits = b.toNat by omega, Int.fdiv_eq_ediv_of_nonneg _ (by exact Int.le_of_lt (Int.pow_pos (by decide)))]; exact h)
theorem x_bits {op : BinOp} {r : Int} (hr : (Op.intBits op k a b : Sem Value) = pure (.int k r)) (ho : op = .and ∨ op = .or ∨ op = .andNot ∨ op = .xor) (h : K (.int k r) w) : X P (.bin op t cx cy (.int k a) (.int k b)) ty w K E := by
  refine .run (v := .int k r) (w' := w) ?_ h
  have h' : binOp op t (.int k a) (.int k b) = Op.intBits op k a b := by rcases ho with rfl | rfl | rfl | rfl <;> simp [binOp]
  have hg : eqG op t cx cy (.int k a) (.int k b) = pure () := by rcases ho with rfl | rfl | rfl | rfl <;> rfl
  simp [Cop.sem, h', hr, hg]
theorem x_lss (ht : a < b → K (.bool true) w) (hf : ¬ a < b → K (.bool false) w) : X P (.bin .lss t cx cy (.int k a) (.int k b)) ty w K E :=
  .run r_lss (by by_cases h : a < b <;> simp only [h, decide_true, decide_false] <;> first | exact ht h | exact hf h)
theorem x_leq (ht : a ≤ b → K (.bool true) w) (hf : ¬ a ≤ b → K (.bool false) w) : X P (.bin .leq t cx cy (.int k a) (.int k b)) ty w K E :=
  .run r_leq (by by_cases h : a ≤ b <;> simp only [h, decide_true, decide_false] <;> first | exact ht h | exact hf h)
theorem x_gtr (ht : b < a → K (.bool true) w) (hf : ¬ b < a → K (.bool false) w) : X P (.bin .gtr t cx cy (.int k a) (.int k b)) ty w K E :=
  .run r_gtr (by by_cases h : b < a <;> simp only [h, decide_true, decide_false] <;> first | exact ht h | exact hf h)
theorem x_geq (ht : b ≤ a → K (.bool true) w) (hf : ¬ b ≤ a → K (.bool false) w) : X P (.bin .geq t cx cy (.int k a) (.int k b)) ty w K E :=
  .run r_geq (by by_cases h : b ≤ a <;> simp only [h, decide_true, decide_false] <;> first | exact ht h | exact hf h)
theorem x_eql (ht : a = b → K (.bool true) w) (hf : ¬ a = b → K (.bool false) w) : X P (.bin .eql t cx cy (.int k a) (.int k b)) ty w K E :=
  .run r_eql (by by_cases h : a = b <;> simp only [h, decide_true, decide_false] <;> first | exact ht h | exact hf h)
theorem x_neq (ht : ¬ a = b → K (.bool true) w) (hf : a = b → K (.bool false) w) : X P (.bin .neq t cx cy (.int k a) (.int k b)) ty w K E :=
  .run r_neq (by by_cases h : a = b <;> simp only [h, decide_true, decide_false, Bool.not_true, Bool.not_false] <;> first | exact ht h | exact hf h)
end
theorem x_conv {s d : TypeId} {k k' : IntKind} {n : Int} {u : TypeDesc} [hs : UT P s u] [hd : UT P d (.int k')] (h : K (.int k' (k'.wrap n)) w) : X P (.conv s d (.int k n)) ty w K E := .run (r_conv hs.h hd.h) h
theorem x_convN {s d : TypeId} {k k' : IntKind} {n : Int} {u : TypeDesc} [hs : UT P s u] [hd : UT P d (.int k')] (hw : k'.wrap n = n) (h : K (.int k' n) w) : X P (.conv s d (.int k n)) ty w K E := .run (r_conv hs.h hd.h) (by rw [hw]; exact h)
theorem x_field {t : TypeId} {b o f : Nat} {off : Nat} [hf : FO P t f off] (h : K (.pointer (some ⟨b, o + off, none⟩)) w) : X P (.fieldAddr t (.pointer (some ⟨b, o, none⟩)) f) ty w K E := by
  obtain ⟨fs, fd, n, h1, h2, h3, h4, rfl⟩ := hf.h
  exact .run (r_field h1 h2 h3 h4) h
theorem x_field0 {t : TypeId} {b f : Nat} {off : Nat} [hf : FO P t f off] (h : K (.pointer (some ⟨b, off, none⟩)) w) : X P (.fieldAddr t (.pointer (some ⟨b, 0, none⟩)) f) ty w K E := by
  refine x_field ?_
  rw [Nat.zero_add]; exact h
theorem x_load1 {t : TypeId} {b o : Nat} {c : Array Value} {T : TypeId} {fz : Nat × Nat} {v : Value} [hs : S1 P t] (hb : w.heap[b]? = some (.cells c T fz)) (hc : c[o]? = some v) (h : K v w) :
    X P (.load t (.pointer (some ⟨b, o, none⟩))) ty w K E := by
  obtain ⟨d, h1, h2⟩ := hs.h
  exact .run (r_load1 h1 h2 hb hc) h
theorem x_loadA {t : TypeId} {b o n : Nat} {c vs : Array Value} {T : TypeId} {fz : Nat × Nat} [hs : SA P t n] (hb : w.heap[b]? = some (.cells c T fz)) (hc : SubAt c o n vs) (h : K (.agg vs) w) :
    X P (.load t (.pointer (some ⟨b, o, none⟩))) ty w K E := by
  obtain ⟨d, h1, h2⟩ := hs.h
  obtain ⟨h3, rfl⟩ := hc
  exact .run (r_loadA h1 h2 hs.s hb h3) h
theorem x_store1 {t : TypeId} {b o : Nat} {c c' : Array Value} {T : TypeId} {v : Value} [hs : S1 P t] (hb : w.heap[b]? = some (.cells c T (0, 0))) (h1 : v.oneCell' = true) (hc : SetAt c o v c')
    (h : K undef (setBlk w b (.cells c' T (0, 0)))) : X P (.store t (.pointer (some ⟨b, o, none⟩)) v) ty w K E := by
  obtain ⟨h3, rfl⟩ := hc
  exact .skip (r_store1 hs.s h1 hb h3) h
theorem x_storeA {t : TypeId} {b o n : Nat} {c c' vs : Array Value} {T : TypeId} [hs : SA P t n] (hb : w.heap[b]? = some (.cells c T (0, 0))) (hv : vs.size = n) (h1 : ∀ v ∈ vs.toList, v.oneCell' = true) (hc : LayAt c o vs c')
    (h : K undef (setBlk w b (.cells c' T (0, 0)))) : X P (.store t (.pointer (some ⟨b, o, none⟩)) (.agg vs)) ty w K E := by
  obtain ⟨h3, rfl⟩ := hc
  exact .skip (r_storeA hs.s hv h1 hb (by omega)) h
theorem x_storeW {t : TypeId} {b n : Nat} {c vs : Array Value} {T : TypeId} [hs : SA P t n] (hb : w.heap[b]? = some (.cells c T (0, 0))) (hv : vs.size = n) (h1 : ∀ v ∈ vs.toList, v.oneCell' = true) (hc : c.size = n)
    (h : K undef (setBlk w b (.cells vs T (0, 0)))) : X P (.store t (.pointer (some ⟨b, 0, none⟩)) (.agg vs)) ty w K E := .skip (r_storeW hs.s hv h1 hb hc) h
theorem x_alloc {t : TypeId} {z : Array Value} [hz : ZC P t z] (h : K (.pointer (some ⟨w.heap.size, 0, none⟩)) (w.alloc (.cells z t (0, 0)))) : X P (.alloc t) ty w K E := by
  obtain ⟨v, h1, rfl⟩ := hz.h
  exact .run (r_alloc h1) h
theorem x_box1 {t : TypeId} {v : Value} (h1 : v.oneCell' = true) (h : K (.pointer (some ⟨w.heap.size, 0, none⟩)) (w.alloc (.cells #[v] t (0, 0)))) : X P (.box t v) ty w K E := by
  refine .run r_box ?_
  rw [show v.cells = #[v] by cases v <;> simp_all [Value.cells, Value.oneCell']]
  exact h
theorem x_boxA {t : TypeId} {c : Array Value} (h : K (.pointer (some ⟨w.heap.size, 0, none⟩)) (w.alloc (.cells c t (0, 0)))) : X P (.box t (.agg c)) ty w K E := .run r_box h
theorem x_idxS {t e : TypeId} {k : IntKind} {b o len cap sz : Nat} {i : Int} [hu : UT P t (.slice e)] [hs : SZ P e sz] (hi : 0 ≤ i ∧ i < len) (h : K (.pointer (some ⟨b, o + i.toNat * sz, none⟩)) w) :
    X P (.indexAddr t (.slice (some ⟨b, o, none⟩) len cap) (.int k i)) ty w K E := .run (r_idxS hu.h hs.h hi) h
theorem x_idxA {t e : TypeId} {k : IntKind} {b o n sz : Nat} {i : Int} [hu : UT P t (.array n e)] [hs : SZ P e sz] (hi : 0 ≤ i ∧ i < n) (h : K (.pointer (some ⟨b, o + i.toNat * sz, none⟩)) w) :
    X P (.indexAddr t (.pointer (some ⟨b, o, none⟩)) (.int k i)) ty w K E := .run (r_idxA hu.h hs.h hi) h
theorem x_index1 {t e : TypeId} {k : IntKind} {n : Nat} {i : Int} {cs : Array Value} {v : Value} [hu : UT P t (.array n e)] [he : S1 P e] (hi : 0 ≤ i ∧ i < n) (hv : cs[i.toNat]? = some v) (h : K v w) : X P (.index t (.agg cs) (.int k i)) ty w K E := by
  obtain ⟨d, h1, h2⟩ := he.h
  exact .run (r_index1 hu.h he.s h1 h2 hi hv) h
theorem x_fieldV {t : TypeId} {f o : Nat} {cs : Array Value} {v : Value} (hfv : ∃ fs fd d, P.underlying t = some (.struct fs) ∧ fs[f]? = some fd ∧ P.underlying fd.type = some d ∧ aggB d = false ∧ fd.offset = o) (hv : cs[o]? = some v) (h : K v w) : X P (.field t (.agg cs) f) ty w K E := by
  obtain ⟨fs, fd, d, h1, h2, h3, h4, rfl⟩ := hfv
  exact .run (r_fieldV1 h1 h2 h3 h4 hv) h
theorem x_lenS {t ty' : TypeId} {cs : Array Bool} {e : TypeId} {a : Option Addr} {n c : Nat} [hu : UT P t (.slice e)] (h : K (.int .i64 n) w) : X P (.callB .len #[t] cs #[.slice a n c]) ty' w K E := .run (r_lenS hu.h) h
theorem x_capS {t ty' : TypeId} {cs : Array Bool} {e : TypeId} {a : Option Addr} {n c : Nat} [hu : UT P t (.slice e)] (h : K (.int .i64 c) w) : X P (.callB .cap #[t] cs #[.slice a n c]) ty' w K E := .run (r_capS hu.h) h
theorem x_lenM {t ty' : TypeId} {cs : Array Bool} {k e : TypeId} {r : Nat} {es : Array MapEntry} {ck : Nat} [hu : UT P t (.map k e)] (hb : w.heap[r]? = some (.map es ck)) (h : K (.int .i64 es.size) w) : X P (.callB .len #[t] cs #[.map (some r)]) ty' w K E := .run (r_lenM hu.h hb) h
theorem x_clearM {t ty' : TypeId} {cs : Array Bool} {k e : TypeId} {r : Nat} {es : Array MapEntry} {ck : Nat} [hu : UT P t (.map k e)] (hb : w.heap[r]? = some (.map es ck)) (h : K (.tuple #[]) (setBlk w r (.map #[] ck))) : X P (.callB .clear #[t] cs #[.map (some r)]) ty' w K E := .run (r_clearM hu.h hb) h
theorem x_min {cs : Array Bool} {ats : Array TypeId} {k : IntKind} {a b : Int} (h : K (.int k (if b < a then b else a)) w) : X P (.callB .min ats cs #[.int k a, .int k b]) ty w K E := .run r_min h
theorem x_extract {vs : Array Value} {i : Nat} {v : Value} (hv : vs[i]? = some v) (h : K v w) : X P (.extract (.tuple vs) i) ty w K E := .run (r_extract hv) h
theorem x_callF {f : FuncId} {args : Array Value} [hc : CF P f] (h : C P f args w K E) : X P (.callF f args) ty w K E := .call (r_callF hc.h) h
theorem x_callV {f : FuncId} {args first cap : List Value} [hc : CF P f] (h : C P f (List.toArray (first ++ args ++ cap)) w K E) : X P (.callV (.func (.func f) (List.toArray first) (List.toArray cap)) (List.toArray args)) ty w K E :=
  .call (r_callV hc.h) (by simpa using h)
theorem x_makeMap {t : TypeId} (h : K (.map (some w.heap.size)) (w.alloc (.map #[] 0))) : X P (.makeMap t none) ty w K E := .run r_makeMap0 h
theorem x_sliceS {t e : TypeId} {b o len cap sz : Nat} {k k' : IntKind} {l h : Int} [hu : UT P t (.slice e)] [hs : SZ P e sz] (h0 : 0 ≤ l) (h1 : l ≤ h) (h2 : h ≤ cap)
    (hk : K (.slice (some (if cap = l.toNat then ⟨b, o, none⟩ else ⟨b, o + l.toNat * sz, none⟩)) (h.toNat - l.toNat) (cap - l.toNat)) w) : X P (.slice t (.slice (some ⟨b, o, none⟩) len cap) (some (.int k l)) (some (.int k' h)) none) ty w K E := .run (r_sliceS hu.h hs.h h0 h1 h2) hk
theorem x_sliceSl {t e : TypeId} {b o len cap sz : Nat} {k : IntKind} {l : Int} [hu : UT P t (.slice e)] [hs : SZ P e sz] (h0 : 0 ≤ l) (h1 : l ≤ len)
    (hk : K (.slice (some (if cap = l.toNat then ⟨b, o, none⟩ else ⟨b, o + l.toNat * sz, none⟩)) (len - l.toNat) (cap - l.toNat)) w) : X P (.slice t (.slice (some ⟨b, o, none⟩) len cap) (some (.int k l)) none none) ty w K E := .run (r_sliceSl hu.h hs.h h0 h1) hk
theorem x_sliceSh {t e : TypeId} {a : Option Addr} {len cap sz : Nat} {k : IntKind} {h : Int} [hu : UT P t (.slice e)] [hs : SZ P e sz] (h0 : 0 ≤ h) (h1 : h ≤ cap)
    (hk : K (.slice a h.toNat cap) w) : X P (.slice t (.slice a len cap) none (some (.int k h)) none) ty w K E := .run (r_sliceSh hu.h hs.h h0 h1) hk
theorem x_sliceA {t e : TypeId} {b o n sz : Nat} {k k' : IntKind} {l h : Int} [hu : UT P t (.array n e)] [hs : SZ P e sz] (h0 : 0 ≤ l) (h1 : l ≤ h) (h2 : h ≤ n)
    (hk : K (.slice (some (if n = l.toNat then ⟨b, o, none⟩ else ⟨b, o + l.toNat * sz, none⟩)) (h.toNat - l.toNat) (n - l.toNat)) w) : X P (.slice t (.pointer (some ⟨b, o, none⟩)) (some (.int k l)) (some (.int k' h)) none) ty w K E := .run (r_sliceA hu.h hs.h h0 h1 h2) hk
theorem x_sliceAh {t e : TypeId} {b o n sz : Nat} {k' : IntKind} {h : Int} [hu : UT P t (.array n e)] [hs : SZ P e sz] (h0 : 0 ≤ h) (h2 : h ≤ n)
    (hk : K (.slice (some ⟨b, o, none⟩) h.toNat n) w) : X P (.slice t (.pointer (some ⟨b, o, none⟩)) none (some (.int k' h)) none) ty w K E := .run (r_sliceAh hu.h hs.h h0 h2) hk
theorem run_eqG_ptr {op : BinOp} {t : TypeId} {cx cy : Bool} {a b : Option Addr} : (eqG op t cx cy (.pointer a) (.pointer b)).run P w = .ok () w := by
  unfold eqG eqGuard
  cases op <;> rfl
theorem run_eq_ptr0 {t e : TypeId} [hu : UT P t (.pointer e)] {a : Option Addr} : (Op.equal t (.pointer a) (.pointer none)).run P w = .ok a.isNone w := by
  unfold Op.equal Op.maxDepth Op.equalIn
  rw [Sem.run_bind, run_underlying hu.h]
  cases a <;> rfl
theorem x_eqlP0 {t e : TypeId} [hu : UT P t (.pointer e)] {cx cy : Bool} {a : Option Addr} (h : K (.bool a.isNone) w) : X P (.bin .eql t cx cy (.pointer a) (.pointer none)) ty w K E :=
  .run (r_eqlB run_eqG_ptr (by simp only [binOp, Sem.run_bind, run_eq_ptr0, Result.andThen_ok, Sem.run_pure])) h
theorem x_neqP0 {t e : TypeId} [hu : UT P t (.pointer e)] {cx cy : Bool} {a : Option Addr} (h : K (.bool !a.isNone) w) : X P (.bin .neq t cx cy (.pointer a) (.pointer none)) ty w K E :=
  .run (r_neqB run_eqG_ptr (by simp only [binOp, Sem.run_bind, run_eq_ptr0, Result.andThen_ok, Sem.run_pure])) h
end
theorem ne_blk {w : World} {a b : Nat} {x y : Obj} (h : w.heap[a]? = some x) (k : w.heap[b]? = some y) (hne : x ≠ y) : a ≠ b := fun e => hne (by subst e; rw [h] at k; exact Option.some.inj k)
end Go.Eng
namespace Go.Eng
open Go.MapKept
open Classical in
noncomputable def upd (f : Value → Option Value) (k v : Value) : Value → Option Value := fun x => if x = k then some v else f x
open Classical in
noncomputable def del (f : Value → Option Value) (k : Value) : Value → Option Value := fun x => if x = k then none else f x
theorem upd_same {f : Value → Option Value} {k v : Value} : upd f k v k = some v := by simp [upd]
theorem upd_ne {f : Value → Option Value} {k v x : Value} (h : x ≠ k) : upd f k v x = f x := by simp [upd, h]
theorem del_same {f : Value → Option Value} {k : Value} : del f k k = none := by simp [del]
theorem del_ne {f : Value → Option Value} {k x : Value} (h : x ≠ k) : del f k x = f x := by simp [del, h]
structure MapOf (es : Array MapEntry) (ck : Nat) (Q : Value → Prop) (f : Value → Option Value) : Prop where
  born : ∀ e ∈ es.toList, e.born < ck
  nb : (es.toList.map (·.born)).Nodup
  nk : (es.toList.map (·.key)).Nodup
  keys : ∀ e ∈ es.toList, Q e.key
  mem : ∀ e ∈ es.toList, f e.key = some e.val
  dom : ∀ k v, f k = some v → ∃ e ∈ es.toList, e.key = k ∧ e.val = v
theorem MapOf.empty (ck : Nat) (Q : Value → Prop) : MapOf #[] ck Q (fun _ => none) := ⟨by simp, by simp, by simp, by simp, by simp, by simp⟩
class KeyT (P : Program) (k : TypeId) (Q : outParam (Value → Prop)) : Prop where
  check : ∀ (em : Bool) (v : Value) (w : World), Q v → (Instr.checkKey em 10000 k v).run P w = .ok () w
  find : ∀ (w : World) (x : Value), Q x → ∀ es : List MapEntry, (∀ e ∈ es, Q e.key) →
    ((Instr.findKey k x es).run P w = .ok none w ∧ ∀ e ∈ es, e.key ≠ x) ∨ ∃ j e, (Instr.findKey k x es).run P w = .ok (some (j, e.val)) w ∧ es[j]? = some e ∧ e.key = x
  stays : ∀ (v : Value) (w : World), Q v → (Instr.keyThatStays v v).run P w = .ok v w
theorem keyT_plain {P : Program} {k : TypeId} {d : TypeDesc} (hd : P.underlying k = some d) : KeyT P k (IsKey d) where
  check em v w hv := run_checkKey hd hv em 9999
  find w x hx es hes := by
    rcases findNow_spec hx es 0 hes with ⟨h1, h2⟩ | ⟨j, e, h1, h2, h3⟩
    · exact .inl ⟨run_findKey hd h1, h2⟩
    · exact .inr ⟨j, e, by simpa using run_findKey (P := P) hd h1, h2, h3⟩
  stays v w hv := run_keyThatStays hv
def Two (q r : IntKind) (v : Value) : Prop := ∃ a b, v = .agg #[.int q a, .int r b]
theorem keyT_two {P : Program} {k ta tb : TypeId} {q r : IntKind} {fs : Array Field} {fa fb : Field} (hu : P.underlying k = some (.struct fs)) (hfs : fs = #[fa, fb]) (ha : fa.name ≠ "_") (hb : fb.name ≠ "_")
    (ta' : fa.type = ta) (tb' : fb.type = tb) (oa : fa.offset = 0) (ob : fb.offset = 1)
    (hta : P.underlying ta = some (.int q)) (htb : P.underlying tb = some (.int r)) (hst : P.stoodInHeld k = false) : KeyT P k (Two q r) := by
  subst hfs
  have pA : ∀ (c0 c1 : Value) (w : World), (part ta #[c0, c1] 0).run P w = .ok c0 w := fun c0 c1 w => by simp [part, run_isAgg hta, aggB]
  have pB : ∀ (c0 c1 : Value) (w : World), (part tb #[c0, c1] 1).run P w = .ok c1 w := fun c0 c1 w => by simp [part, run_isAgg htb, aggB]
  have eqI : ∀ (n : Nat) (t : TypeId) (q : IntKind) (x y : Int) (w : World), P.underlying t = some (.int q) → (Op.equalIn (n + 1) t (.int q x) (.int q y)).run P w = .ok (x == y) w := fun n t q x y w h => by
    unfold Op.equalIn
    simp [run_underlying h]
  have eq2 : ∀ (n : Nat) (a b c d : Int) (w : World), (Op.equalIn (n + 2) k (.agg #[.int q a, .int r b]) (.agg #[.int q c, .int r d])).run P w = .ok (a == c && b == d) w := fun n a b c d w => by
    unfold Op.equalIn
    simp only [Sem.run_bind, run_underlying hu, Result.andThen_ok, run_program, hst]
    by_cases h1 : a = c <;> by_cases h2 : b = d <;> simp [h1, h2, hst, ha, hb, ta', tb', oa, ob, pA, pB, eqI _ _ _ _ _ _ hta, eqI _ _ _ _ _ _ htb]
  have ask : ∀ (a b : Int) (w : World) (es : List MapEntry) (i : Nat), (∀ e ∈ es, Two q r e.key) →
      ((Instr.findAsking k (.agg #[.int q a, .int r b]) es i).run P w = .ok none w ∧ ∀ e ∈ es, e.key ≠ .agg #[.int q a, .int r b]) ∨
      ∃ j e, (Instr.findAsking k (.agg #[.int q a, .int r b]) es i).run P w = .ok (some (i + j, e.val)) w ∧ es[j]? = some e ∧ e.key = .agg #[.int q a, .int r b] := by
    intro a b w es
    induction es with
    | nil => exact fun i _ => .inl ⟨rfl, by simp⟩
    | cons e es ih =>
      intro i hes
      obtain ⟨c, d, hk⟩ := hes e (by simp)
      have h := eq2 9998 a b c d w
      by_cases hcd : a = c ∧ b = d
      · obtain ⟨rfl, rfl⟩ := hcd
        refine .inr ⟨0, e, ?_, rfl, hk⟩
        simp [Instr.findAsking, Op.equal, Op.maxDepth, hk, h]
      · have hne : e.key ≠ .agg #[.int q a, .int r b] := by
          rw [hk]
          intro he
          simp at he
          exact hcd ⟨he.1.symm, he.2.symm⟩
        have hf : (a == c && b == d) = false := by
          simp only [Bool.and_eq_false_iff, beq_eq_false_iff_ne]
          by_cases h1 : a = c
          · exact .inr fun h2 => hcd ⟨h1, h2⟩
          · exact .inl h1
        rw [hf] at h
        have hstep : (Instr.findAsking k (.agg #[.int q a, .int r b]) (e :: es) i).run P w = (Instr.findAsking k (.agg #[.int q a, .int r b]) es (i + 1)).run P w := by
          simp [Instr.findAsking, Op.equal, Op.maxDepth, hk, h]
        rw [hstep]
        rcases ih (i + 1) (fun x hx => hes x (by simp [hx])) with ⟨h1, h2⟩ | ⟨j, e', h1, h2, h3⟩
        · refine .inl ⟨h1, fun x hx => ?_⟩
          rcases List.mem_cons.1 hx with rfl | hx
          · exact hne
          · exact h2 x hx
        · exact .inr ⟨j + 1, e', by rw [h1, show i + 1 + j = i + (j + 1) by omega], by simpa using h2, h3⟩
  refine ⟨?_, ?_, ?_⟩
  · rintro em v w ⟨a, b, rfl⟩
    have hc : ∀ (em : Bool) (n : Nat) (t : TypeId) (q : IntKind) (x : Int) (w : World), P.underlying t = some (.int q) → (Instr.checkKey em (n + 1) t (.int q x)).run P w = .ok () w := fun em n t q x w h => run_checkKey h (show IsKey (.int q) (.int q x) from rfl) em n
    unfold Instr.checkKey
    simp [run_underlying hu, ha, hb, ta', tb', oa, ob, pA, pB, hc _ _ _ _ _ _ hta, hc _ _ _ _ _ _ htb]
  · rintro w x ⟨a, b, rfl⟩ es hes
    rcases ask a b w es 0 hes with ⟨h1, h2⟩ | ⟨j, e, h1, h2, h3⟩
    · refine .inl ⟨?_, h2⟩
      simp only [Instr.findKey, Sem.run_bind, run_underlying hu, Result.andThen_ok]
      cases es with
      | nil => rfl
      | cons e es =>
        obtain ⟨c, d, hk⟩ := hes e (by simp)
        simp only [Instr.findNow, Instr.sameNow, hk]
        exact h1
    · refine .inr ⟨j, e, ?_, h2, h3⟩
      simp only [Nat.zero_add] at h1
      simp only [Instr.findKey, Sem.run_bind, run_underlying hu, Result.andThen_ok]
      cases es with
      | nil => simp at h2
      | cons e' es =>
        obtain ⟨c, d, hk⟩ := hes e' (by simp)
        simp only [Instr.findNow, Instr.sameNow, hk]
        exact h1
  · rintro v w ⟨a, b, rfl⟩
    simp [Instr.keyThatStays, Instr.sameBits]
section
variable {P : Program} {w : World}
theorem run_setObj_at {r : Nat} {es : Array MapEntry} {ck : Nat} {o' : Obj} (hb : w.heap[r]? = some (.map es ck)) : (setObj r o').run P w = .ok () (setBlk w r o') := run_setObj_map o' hb
theorem MapOf.at {es : Array MapEntry} {ck : Nat} {Q : Value → Prop} {f : Value → Option Value} (m : MapOf es ck Q f) {j : Nat} {e : MapEntry} (h : es.toList[j]? = some e) : f e.key = some e.val :=
  m.mem e (List.mem_of_getElem? h)
theorem MapOf.no {es : Array MapEntry} {ck : Nat} {Q : Value → Prop} {f : Value → Option Value} (m : MapOf es ck Q f) {k : Value} (h : ∀ e ∈ es.toList, e.key ≠ k) : f k = none := by
  cases hf : f k with
  | none => rfl
  | some v =>
    obtain ⟨e, he, h1, _⟩ := m.dom k v hf
    exact absurd h1 (h e he)
theorem MapOf.eq_of_key {es : Array MapEntry} {ck : Nat} {Q : Value → Prop} {f : Value → Option Value} (m : MapOf es ck Q f) {i j : Nat} {a b : MapEntry} (ha : es.toList[i]? = some a) (hb : es.toList[j]? = some b) (hk : a.key = b.key) : i = j := by
  have h1 := (List.getElem?_eq_some_iff.1 ha)
  have h2 := (List.getElem?_eq_some_iff.1 hb)
  obtain ⟨h1, rfl⟩ := h1
  obtain ⟨h2, rfl⟩ := h2
  have hn := List.pairwise_iff_getElem.1 m.nk
  rcases Nat.lt_trichotomy i j with h | h | h
  · exact (hn i j (by simpa using h1) (by simpa using h2) h (by simpa using hk)).elim
  · exact h
  · exact (hn j i (by simpa using h2) (by simpa using h1) h (by simpa using hk.symm)).elim
theorem run_find {kt : TypeId} {Q : Value → Prop} [T : KeyT P kt Q] {es : Array MapEntry} {ck : Nat} {f : Value → Option Value} (m : MapOf es ck Q f) {x : Value} (hx : Q x) :
    ((Instr.findKey kt x es.toList).run P w = .ok none w ∧ f x = none ∧ ∀ e ∈ es.toList, e.key ≠ x) ∨
    ∃ j e, (Instr.findKey kt x es.toList).run P w = .ok (some (j, e.val)) w ∧ es.toList[j]? = some e ∧ e.key = x ∧ f x = some e.val := by
  rcases T.find w x hx es.toList m.keys with ⟨h1, h2⟩ | ⟨j, e, h1, h2, h3⟩
  · exact .inl ⟨h1, m.no h2, h2⟩
  · exact .inr ⟨j, e, h1, h2, h3, by rw [← h3]; exact m.at h2⟩
theorem r_look {ty t kt et : TypeId} {Q : Value → Prop} (hu : P.underlying t = some (.map kt et)) [T : KeyT P kt Q] {r : Nat} {es : Array MapEntry} {ck : Nat} {f : Value → Option Value} (hb : w.heap[r]? = some (.map es ck)) (m : MapOf es ck Q f) {x z : Value} (hx : Q x)
    (hz : (P.info? et).bind (·.zero) = some z) : ((Cop.lookup t (.map (some r)) x false).sem ty).run P w = .ok (.value ((f x).getD z)) w := by
  have hzr : (zeroValue et).run P w = .ok z w := by
    cases hi : P.info? et with
    | none => rw [hi] at hz; cases hz
    | some i =>
      have he : i.zero = some z := by rw [hi] at hz; exact hz
      simp [zeroValue, typeInfo, hi, he]
  rcases run_find (P := P) (w := w) (kt := kt) m hx with ⟨h1, h2, _⟩ | ⟨j, e, h1, _, _, h2⟩
  · simp [Cop.sem, Instr.lookup, run_underlying hu, Go.MapKept.run_getObj_map hb, T.check _ _ _ hx, h1, h2, hzr]
  · simp [Cop.sem, Instr.lookup, run_underlying hu, Go.MapKept.run_getObj_map hb, T.check _ _ _ hx, h1, h2]
theorem r_lookOk {ty t kt et : TypeId} {Q : Value → Prop} (hu : P.underlying t = some (.map kt et)) [T : KeyT P kt Q] {r : Nat} {es : Array MapEntry} {ck : Nat} {f : Value → Option Value} (hb : w.heap[r]? = some (.map es ck)) (m : MapOf es ck Q f) {x z : Value} (hx : Q x)
    (hz : (P.info? et).bind (·.zero) = some z) : ((Cop.lookup t (.map (some r)) x true).sem ty).run P w = .ok (.value (.tuple #[(f x).getD z, .bool (f x).isSome])) w := by
  have hzr : (zeroValue et).run P w = .ok z w := by
    cases hi : P.info? et with
    | none => rw [hi] at hz; cases hz
    | some i =>
      have he : i.zero = some z := by rw [hi] at hz; exact hz
      simp [zeroValue, typeInfo, hi, he]
  rcases run_find (P := P) (w := w) (kt := kt) m hx with ⟨h1, h2, _⟩ | ⟨j, e, h1, _, _, h2⟩
  · simp [Cop.sem, Instr.lookup, run_underlying hu, Go.MapKept.run_getObj_map hb, T.check _ _ _ hx, h1, h2, hzr]
  · simp [Cop.sem, Instr.lookup, run_underlying hu, Go.MapKept.run_getObj_map hb, T.check _ _ _ hx, h1, h2]
theorem MapOf.push {es : Array MapEntry} {ck : Nat} {Q : Value → Prop} {f : Value → Option Value} (m : MapOf es ck Q f) {x v : Value} (hx : Q x) (hn : ∀ e ∈ es.toList, e.key ≠ x) :
    MapOf (es.push { key := x, val := v, born := ck }) (ck + 1) Q (upd f x v) := by
  have hmem : ∀ e, e ∈ (es.push { key := x, val := v, born := ck }).toList → e ∈ es.toList ∨ e = { key := x, val := v, born := ck } := fun e he => by simpa using he
  refine ⟨fun e he => ?_, ?_, ?_, fun e he => ?_, fun e he => ?_, fun k u hk => ?_⟩
  · rcases hmem e he with he | rfl
    · exact Nat.lt_succ_of_lt (m.born e he)
    · exact Nat.lt_succ_self _
  · simp only [Array.toList_push, List.map_append, List.map_cons, List.map_nil]
    refine List.nodup_append.2 ⟨m.nb, by simp, fun a ha b hb => ?_⟩
    obtain ⟨e, he, rfl⟩ := List.mem_map.1 ha
    have := m.born e he
    simp at hb
    omega
  · simp only [Array.toList_push, List.map_append, List.map_cons, List.map_nil]
    refine List.nodup_append.2 ⟨m.nk, by simp, fun a ha b hb => ?_⟩
    obtain ⟨e, he, rfl⟩ := List.mem_map.1 ha
    simp at hb
    subst hb
    exact hn e he
  · rcases hmem e he with he | rfl
    · exact m.keys e he
    · exact hx
  · rcases hmem e he with he | rfl
    · rw [upd_ne (hn e he)]; exact m.mem e he
    · exact upd_same
  · by_cases h : k = x
    · subst h
      rw [upd_same] at hk
      cases hk
      exact ⟨{ key := k, val := v, born := ck }, by simp, rfl, rfl⟩
    · rw [upd_ne h] at hk
      obtain ⟨e, he, h1, h2⟩ := m.dom k u hk
      exact ⟨e, by simp at he ⊢; exact .inl he, h1, h2⟩
theorem map_set_same {α β : Type} (g : α → β) : ∀ (l : List α) (j : Nat) (a b : α), l[j]? = some a → g b = g a → (l.set j b).map g = l.map g
  | [], _, _, _, h, _ => by simp at h
  | x :: l, 0, a, b, h, hg => by
    simp at h
    subst h
    simp [hg]
  | x :: l, j + 1, a, b, h, hg => by
    simp at h
    simp [map_set_same g l j a b h hg]
theorem MapOf.set {es : Array MapEntry} {ck : Nat} {Q : Value → Prop} {f : Value → Option Value} (m : MapOf es ck Q f) {x v : Value} {j : Nat} {e : MapEntry} (h2 : es.toList[j]? = some e) (h3 : e.key = x) :
    MapOf (es.modify j fun e => { e with key := x, val := v }) ck Q (upd f x v) := by
  have hl : (es.modify j fun e => { e with key := x, val := v }).toList = es.toList.set j { e with key := x, val := v } := by
    apply List.ext_getElem?
    intro i
    rw [Array.getElem?_toList, Array.getElem?_modify, List.getElem?_set]
    by_cases hij : j = i
    · subst hij
      have hlt := (List.getElem?_eq_some_iff.1 h2).1
      have hle : es[j]? = some e := by simpa using h2
      simp at hlt
      have hee : es[j] = e := by rw [Array.getElem?_eq_getElem hlt] at hle; exact Option.some.inj hle
      simp [hle, hlt, hee]
    · simp [hij]
  have hmem : ∀ y, y ∈ es.toList.set j { e with key := x, val := v } → (y ∈ es.toList ∧ y.key ≠ x) ∨ y = { e with key := x, val := v } := fun y hy => by
    obtain ⟨i, hi⟩ := List.mem_iff_getElem?.1 hy
    rw [List.getElem?_set] at hi
    split at hi
    · split at hi
      · exact .inr (by simpa using hi.symm)
      · cases hi
    · rename_i hne
      exact .inl ⟨List.mem_of_getElem? hi, fun hk => hne (m.eq_of_key h2 hi (h3.trans hk.symm))⟩
  refine ⟨?_, ?_, ?_, ?_, ?_, ?_⟩ <;> rw [hl]
  · intro y hy
    rcases hmem y hy with ⟨hy, _⟩ | rfl
    · exact m.born y hy
    · exact m.born e (List.mem_of_getElem? h2)
  · rw [map_set_same (·.born) es.toList j e { e with key := x, val := v } h2 rfl]; exact m.nb
  · rw [map_set_same (·.key) es.toList j e { e with key := x, val := v } h2 h3.symm]; exact m.nk
  · intro y hy
    rcases hmem y hy with ⟨hy, _⟩ | rfl
    · exact m.keys y hy
    · show Q x; rw [← h3]; exact m.keys e (List.mem_of_getElem? h2)
  · intro y hy
    rcases hmem y hy with ⟨hy, hne⟩ | rfl
    · rw [upd_ne hne]; exact m.mem y hy
    · exact upd_same
  · intro k u hk
    have hlt := (List.getElem?_eq_some_iff.1 h2).1
    by_cases h : k = x
    · subst h
      rw [upd_same] at hk
      cases hk
      exact ⟨{ e with key := k, val := v }, List.mem_iff_getElem?.2 ⟨j, by rw [List.getElem?_set]; simp at hlt; simp [hlt]⟩, rfl, rfl⟩
    · rw [upd_ne h] at hk
      obtain ⟨y, hy, h1, h4⟩ := m.dom k u hk
      obtain ⟨i, hi⟩ := List.mem_iff_getElem?.1 hy
      refine ⟨y, List.mem_iff_getElem?.2 ⟨i, ?_⟩, h1, h4⟩
      rw [List.getElem?_set, if_neg]
      · exact hi
      · rintro rfl
        rw [h2] at hi
        cases hi
        exact h (h1.symm.trans h3)
theorem r_mapUpd {ty t kt et : TypeId} {Q : Value → Prop} (hu : P.underlying t = some (.map kt et)) [T : KeyT P kt Q] {r : Nat} {es : Array MapEntry} {ck : Nat} {f : Value → Option Value} (hb : w.heap[r]? = some (.map es ck)) (m : MapOf es ck Q f) {x v : Value} (hx : Q x) :
    ∃ es' ck', ((Cop.mapUpdate t (.map (some r)) x v).sem ty).run P w = .ok .skip (setBlk w r (.map es' ck')) ∧ MapOf es' ck' Q (upd f x v) ∧ es'.size = (if (f x).isSome then es.size else es.size + 1) := by
  rcases run_find (P := P) (w := w) (kt := kt) m hx with ⟨h1, h2, h3⟩ | ⟨j, e, h1, h2, h3, h4⟩
  · refine ⟨_, _, ?_, m.push (v := v) hx h3, by simp [h2]⟩
    simp [Cop.sem, Instr.mapUpdate, run_underlying hu, Go.MapKept.run_getObj_map hb, T.check _ _ _ hx, h1, run_setObj_at hb]
  · refine ⟨_, _, ?_, m.set (v := v) h2 h3, by simp [h4]⟩
    have hj : es[j]? = some e := by simpa using h2
    simp [Cop.sem, Instr.mapUpdate, run_underlying hu, Go.MapKept.run_getObj_map hb, T.check _ _ _ hx, h1, hj, h3, T.stays _ _ hx, run_setObj_at hb]
theorem MapOf.erase {es : Array MapEntry} {ck : Nat} {Q : Value → Prop} {f : Value → Option Value} (m : MapOf es ck Q f) {x : Value} {j : Nat} {e : MapEntry} (h2 : es.toList[j]? = some e) (h3 : e.key = x) :
    MapOf (es.eraseIdxIfInBounds j) ck Q (del f x) := by
  have hlt := (List.getElem?_eq_some_iff.1 h2).1
  have hl : (es.eraseIdxIfInBounds j).toList = es.toList.eraseIdx j := by
    simp at hlt
    simp [Array.eraseIdxIfInBounds, hlt]
  have hsub : (es.toList.eraseIdx j).Sublist es.toList := List.eraseIdx_sublist _ _
  have hne : ∀ y ∈ es.toList.eraseIdx j, y.key ≠ x := fun y hy hk => by
    obtain ⟨i, hi⟩ := List.mem_iff_getElem?.1 hy
    rw [List.getElem?_eraseIdx] at hi
    split at hi
    · have := m.eq_of_key h2 hi (h3.trans hk.symm); omega
    · have := m.eq_of_key h2 hi (h3.trans hk.symm); omega
  refine ⟨?_, ?_, ?_, ?_, ?_, ?_⟩ <;> rw [hl]
  · exact fun y hy => m.born y (hsub.subset hy)
  · exact m.nb.sublist (hsub.map _)
  · exact m.nk.sublist (hsub.map _)
  · exact fun y hy => m.keys y (hsub.subset hy)
  · intro y hy
    rw [del_ne (hne y hy)]
    exact m.mem y (hsub.subset hy)
  · intro k u hk
    by_cases h : k = x
    · subst h; rw [del_same] at hk; cases hk
    · rw [del_ne h] at hk
      obtain ⟨y, hy, h1, h4⟩ := m.dom k u hk
      obtain ⟨i, hi⟩ := List.mem_iff_getElem?.1 hy
      refine ⟨y, ?_, h1, h4⟩
      have hij : i ≠ j := by
        rintro rfl
        rw [h2] at hi; cases hi
        exact h (h1.symm.trans h3)
      rcases Nat.lt_or_gt_of_ne hij with h' | h'
      · exact List.mem_iff_getElem?.2 ⟨i, by rw [List.getElem?_eraseIdx, if_pos h', hi]⟩
      · exact List.mem_iff_getElem?.2 ⟨i - 1, by rw [List.getElem?_eraseIdx, if_neg (by omega), show i - 1 + 1 = i by omega, hi]⟩
theorem MapOf.congr {es : Array MapEntry} {ck : Nat} {Q : Value → Prop} {f g : Value → Option Value} (m : MapOf es ck Q f) (h : ∀ x, f x = g x) : MapOf es ck Q g := by
  rw [← show f = g from funext h]; exact m
end
class ZV (P : Program) (t : TypeId) (z : outParam Value) : Prop where
  h : (P.info? t).bind (·.zero) = some z
section
variable {P : Program} {w : World} {ty : TypeId} {K : Value → World → Prop} {E : List PanicEntry → World → Prop}
theorem x_look {t kt et : TypeId} {Q : Value → Prop} [hu : UT P t (.map kt et)] [T : KeyT P kt Q] {r : Nat} {es : Array MapEntry} {ck : Nat} {f : Value → Option Value} {x z : Value} [hz : ZV P et z] (hb : w.heap[r]? = some (.map es ck)) (m : MapOf es ck Q f) (hx : Q x)
    (h : K ((f x).getD z) w) : X P (.lookup t (.map (some r)) x false) ty w K E := .run (r_look hu.h hb m hx hz.h) h
theorem x_lookOk {t kt et : TypeId} {Q : Value → Prop} [hu : UT P t (.map kt et)] [T : KeyT P kt Q] {r : Nat} {es : Array MapEntry} {ck : Nat} {f : Value → Option Value} {x z : Value} [hz : ZV P et z] (hb : w.heap[r]? = some (.map es ck)) (m : MapOf es ck Q f) (hx : Q x)
    (h : K (.tuple #[(f x).getD z, .bool (f x).isSome]) w) : X P (.lookup t (.map (some r)) x true) ty w K E := .run (r_lookOk hu.h hb m hx hz.h) h
theorem x_mapUpd {t kt et : TypeId} {Q : Value → Prop} [hu : UT P t (.map kt et)] [T : KeyT P kt Q] {r : Nat} {es : Array MapEntry} {ck : Nat} {f : Value → Option Value} {x v : Value} (hb : w.heap[r]? = some (.map es ck)) (m : MapOf es ck Q f) (hx : Q x)
    (h : ∀ es' ck', MapOf es' ck' Q (upd f x v) → es'.size = (if (f x).isSome then es.size else es.size + 1) → K undef (setBlk w r (.map es' ck'))) : X P (.mapUpdate t (.map (some r)) x v) ty w K E := by
  obtain ⟨es', ck', h1, h2, h3⟩ := r_mapUpd (ty := ty) (v := v) hu.h hb m hx
  exact .skip h1 (h es' ck' h2 h3)
end
end Go.Eng
namespace Go.Eng
class PL (P : Program) (t : TypeId) (i : Nat) (off n : outParam Nat) : Prop where
  h : ∃ fs fd, P.underlying t = some (.struct fs) ∧ fs[i]? = some fd ∧ fd.offset = off ∧ (P.info? fd.type).map (·.size) = some n
def Fill (pl : Nat → Nat → Nat → Prop) (c : Array Value) : List (Nat × Value) → Array Value → Prop
  | [], c' => c = c'
  | (i, v) :: rest, c' => ∃ off n c1, pl i off n ∧ v.cells.size = n ∧ LayAt c off v.cells c1 ∧ Fill pl c1 rest c'
theorem fill_nil {pl : Nat → Nat → Nat → Prop} {c : Array Value} : Fill pl c [] c := rfl
theorem cells1 {v : Value} (h : v.oneCell' = true) : v.cells = #[v] := by cases v <;> simp_all [Value.cells, Value.oneCell']
theorem lay_set {c c' : Array Value} {o : Nat} {v : Value} (h : SetAt c o v c') : LayAt c o #[v] c' := ⟨by have := h.1; simp; omega, by rw [h.2]; exact (lay_one h.1).symm⟩
theorem fill_1 {pl : Nat → Nat → Nat → Prop} {c c1 c' : Array Value} {i off : Nat} {v : Value} {rest : List (Nat × Value)} (hp : pl i off 1) (h1 : v.oneCell' = true) (hs : SetAt c off v c1) (hr : Fill pl c1 rest c') : Fill pl c ((i, v) :: rest) c' :=
  ⟨off, 1, c1, hp, by rw [cells1 h1]; rfl, by rw [cells1 h1]; exact lay_set hs, hr⟩
theorem fill_A {pl : Nat → Nat → Nat → Prop} {c c1 c' vs : Array Value} {i off n : Nat} {rest : List (Nat × Value)} (hp : pl i off n) (hn : vs.size = n) (hs : LayAt c off vs c1) (hr : Fill pl c1 rest c') : Fill pl c ((i, .agg vs) :: rest) c' :=
  ⟨off, n, c1, hp, hn, hs, hr⟩
theorem foldl_lay (v : List Value) : ∀ (c : Array Value) (o k : Nat), o + k + v.length ≤ c.size → (v.zipIdx k).foldl (fun cs (p : Value × Nat) => cs.setIfInBounds (o + p.2) p.1) c = lay c (o + k) v := by
  induction v with
  | nil => intro c o k _; simp [lay]
  | cons x v ih =>
    intro c o k h
    simp only [List.length_cons] at h
    simp only [List.zipIdx_cons, List.foldl_cons]
    rw [ih _ o (k + 1) (by rw [Array.size_setIfInBounds]; omega)]
    apply Array.ext'
    simp only [lay, Array.toList_setIfInBounds]
    rw [show o + (k + 1) = (o + k) + 1 by omega]
    have hl : o + k < c.toList.length := by simp; omega
    rw [List.set_eq_take_append_cons_drop, if_pos hl]
    have e1 : (c.toList.take (o + k) ++ x :: c.toList.drop (o + k + 1)).take (o + k + 1) = c.toList.take (o + k) ++ [x] := by
      rw [List.take_append]
      simp at hl
      simp [Nat.min_eq_left (Nat.le_of_lt hl), List.take_take]
    have e2 : (c.toList.take (o + k) ++ x :: c.toList.drop (o + k + 1)).drop (o + k + 1 + v.length) = c.toList.drop (o + k + (x :: v).length) := by
      rw [List.drop_append]
      simp at hl
      have e3 : (c.toList.take (o + k)).length = o + k := by simp; omega
      rw [List.drop_of_length_le (by rw [e3]; omega), e3, show o + k + 1 + v.length - (o + k) = v.length + 1 by omega, List.drop_succ_cons, List.drop_drop, List.nil_append]
      congr 1
      simp; omega
    rw [e1, e2]
    simp
theorem fill_run {pl : Nat → Nat → Nat → Prop} {place : Nat → Option (Nat × Nat)} (hp : ∀ i off n, pl i off n → place i = some (off, n)) : ∀ {l : List (Nat × Value)} {c c' : Array Value}, Fill pl c l c' → Instr.fill place c l = some c'
  | [], _, _, h => congrArg some h
  | (i, v) :: rest, c, c', ⟨off, n, c1, h1, h2, h3, h4⟩ => by
    have ⟨h5, h6⟩ := h3
    have hsz : off + v.cells.size ≤ c.size := by omega
    unfold Instr.fill
    simp only [hp _ _ _ h1]
    rw [if_neg (by simp [h2]; omega)]
    have := foldl_lay v.cells.toList c off 0 (by simpa using hsz)
    have e : v.cells.zipIdx.foldl (fun cs (p : Value × Nat) => cs.setIfInBounds (off + p.2) p.1) c = c1 := by
      rw [← Array.foldl_toList, Array.toList_zipIdx]
      rw [this, h6]
      rfl
    rw [e]
    exact fill_run hp h4
class SS (P : Program) (t : TypeId) : Prop where
  h : ∃ fs ss, P.underlying t = some (.struct fs) ∧ fs.toList.map (fun f => (P.info? f.type).map (·.size)) = List.map some ss
class EL (P : Program) (e : TypeId) (size bytes : outParam Nat) (z : outParam (Array Value)) : Prop where
  h : ∃ i v, P.info? e = some i ∧ i.zero = some v ∧ i.size = size ∧ i.bytes = bytes ∧ v.cells = z ∧ z.size = size ∧ 0 < size
section
variable {P : Program} {w : World} {ty : TypeId} {K : Value → World → Prop} {E : List PanicEntry → World → Prop}
theorem run_mapM_sizes {fs : List Field} {ss : List Nat} (h : fs.map (fun f => (P.info? f.type).map (·.size)) = ss.map some) :
    (fs.mapM fun f => Prod.mk f.offset <$> sizeOf f.type : Sem (List (Nat × Nat))).run P w = .ok ((fs.map (·.offset)).zip ss) w := by
  induction fs generalizing ss with
  | nil => cases ss with
    | nil => rfl
    | cons => simp at h
  | cons f fs ih =>
    cases ss with
    | nil => simp at h
    | cons s ss =>
      simp only [List.map_cons, List.cons.injEq] at h
      have hs : (sizeOf f.type).run P w = .ok s w := by
        cases hi : P.info? f.type with
        | none => rw [hi] at h; simp at h
        | some i => rw [hi] at h; simp at h; simp [sizeOf, typeInfo, hi, h.1]
      simp [List.mapM_cons, hs, ih h.2]
theorem x_buildS {t : TypeId} {ps : List (Nat × Value)} {z c' : Array Value} [hz : ZC P t z] [hss : SS P t]
    (hf : Fill (PL P t) z ps c') (h : K (.agg c') w) : X P (.build t (List.toArray ps)) ty w K E := by
  obtain ⟨v, h1, rfl⟩ := hz.h
  obtain ⟨fs, ss, h2, h3⟩ := hss.h
  refine .run (v := .agg c') (w' := w) ?_ h
  have hzr : (zeroValue t).run P w = .ok v w := by
    cases hi : P.info? t with
    | none => rw [hi] at h1; cases h1
    | some i =>
      have he : i.zero = some v := by rw [hi] at h1; exact h1
      simp [zeroValue, typeInfo, hi, he]
  have hm : (fs.mapM fun f => Prod.mk f.offset <$> sizeOf f.type : Sem (Array (Nat × Nat))).run P w = .ok (List.toArray ((fs.toList.map (·.offset)).zip ss)) w := by
    have := run_mapM_sizes (P := P) (w := w) h3
    rw [Array.mapM_eq_mapM_toList]
    simp [this]
  have hfill : Instr.fill (fun i => (List.toArray ((fs.toList.map (·.offset)).zip ss))[i]?) v.cells ps = some c' := by
    refine fill_run (fun i off n hp => ?_) hf
    obtain ⟨fs', fd, h4, h5, h6, h7⟩ := hp.h
    rw [h2] at h4
    cases h4
    have hi := congrArg (fun l => l[i]?) h3
    simp only [List.getElem?_map, Array.getElem?_toList, h5, Option.map_some, h7] at hi
    simp only [List.getElem?_toArray, List.getElem?_zip_eq_some, List.getElem?_map, Array.getElem?_toList, h5, Option.map_some]
    refine ⟨by rw [h6], ?_⟩
    cases hs : ss[i]? with
    | none => rw [hs] at hi; simp at hi
    | some s => rw [hs] at hi; simp at hi; rw [hi]
  simp only [List.getElem?_toArray] at hfill
  simp [Cop.sem, Instr.build, hzr, run_underlying h2, hm, hfill]
theorem x_buildR {t e : TypeId} {len sz : Nat} {ps : List (Nat × Value)} {z c' : Array Value} [hz : ZC P t z] [hu : UT P t (.array len e)] [hs : SZ P e sz]
    (hf : Fill (fun i off n => off = i * sz ∧ n = sz) z ps c') (h : K (.agg c') w) : X P (.build t (List.toArray ps)) ty w K E := by
  obtain ⟨v, h1, rfl⟩ := hz.h
  refine .run (v := .agg c') (w' := w) ?_ h
  have hzr : (zeroValue t).run P w = .ok v w := by
    cases hi : P.info? t with
    | none => rw [hi] at h1; cases h1
    | some i =>
      have he : i.zero = some v := by rw [hi] at h1; exact h1
      simp [zeroValue, typeInfo, hi, he]
  have hsr : (sizeOf e).run P w = .ok sz w := by
    have hs' := hs.h
    cases hi : P.info? e with
    | none => rw [hi] at hs'; cases hs'
    | some i =>
      have he : i.size = sz := by rw [hi] at hs'; exact Option.some.inj hs'
      simp [sizeOf, typeInfo, hi, he]
  have hfill : Instr.fill (fun i => some (i * sz, sz)) v.cells ps = some c' := by
    refine fill_run (fun i off n hp => ?_) hf
    obtain ⟨rfl, rfl⟩ := hp
    rfl
  simp [Cop.sem, Instr.build, hzr, run_underlying hu.h, hsr, hfill]
theorem x_buildSlice {t e : TypeId} {len sz by' : Nat} {ps : List (Nat × Value)} {z z' c' : Array Value} [hu : UT P t (.slice e)] [hs : EL P e sz by' z] (hlen : len * sz ≤ 2 ^ 24) (h0 : 0 < len) (hz' : (Array.range (len * sz)).map (z[· % z.size]!) = z')
    (hf : Fill (fun i off n => off = i * sz ∧ n = sz) z' ps c') (h : K (.slice (some ⟨w.heap.size, 0, none⟩) len len) (w.alloc (.cells c' e (0, 0)))) : X P (.buildSlice t len (List.toArray ps)) ty w K E := by
  obtain ⟨i, v, h1, h2, rfl, rfl, rfl, h3, h4⟩ := hs.h
  refine .run (v := .slice (some ⟨w.heap.size, 0, none⟩) len len) (w' := w.alloc (.cells c' e (0, 0))) ?_ h
  have hzr : (zeroValue e).run P w = .ok v w := by simp [zeroValue, typeInfo, h1, h2]
  have hsr : (sizeOf e).run P w = .ok i.size w := by simp [sizeOf, typeInfo, h1]
  have hfill : Instr.fill (fun j => some (j * i.size, i.size)) z' ps = some c' := by
    refine fill_run (fun i off n hp => ?_) hf
    obtain ⟨rfl, rfl⟩ := hp
    rfl
  have h5 : ¬ (2 ^ 24 < len * i.size) := by omega
  have h6 : ¬ (len * i.size = 0) := by
    have := Nat.mul_pos h0 h4
    omega
  simp [Cop.sem, Instr.buildSlice, run_underlying hu.h, hsr, hzr, h5, h6, hz', hfill, newRow, newObj, Sem.run]
end
end Go.Eng
namespace Go.Eng
section
variable {P : Program} {w : World} {ty : TypeId} {K : Value → World → Prop} {E : List PanicEntry → World → Prop}
theorem x_make {t e : TypeId} {sz bytes : Nat} {z : Array Value} {kl kc : IntKind} {l c : Int} [hu : UT P t (.slice e)] [he : EL P e sz bytes z] (h0 : 0 ≤ l) (h1 : l ≤ c) (h2 : (bytes : Int) * c ≤ 281474976710656) (h3 : c ≤ 9223372036854775807)
    (h : K (.slice (some ⟨w.heap.size, 0, none⟩) l.toNat c.toNat) (w.alloc (.cells (madeCells z (c.toNat * sz)) e (0, 0)))) : X P (.makeSlice t (.int kl l) (.int kc c)) ty w K E := by
  obtain ⟨i, v, g1, g2, rfl, rfl, rfl, g3, g4⟩ := he.h
  refine .run (v := .slice (some ⟨w.heap.size, 0, none⟩) l.toNat c.toNat) ?_ h
  simp [Cop.sem, run_make w t e i v hu.h g1 g2 kl kc l c h0 h1 h2 h3]
theorem madeCells_1 (v : Value) (n : Nat) : madeCells #[v] n = Array.replicate n v := by
  apply Array.ext
  · simp [madeCells]
  · intro i h1 h2
    simp [madeCells, Nat.mod_one]
def Holds (w : World) (a : Addr) (cs : List Value) : Prop := ∀ j v, cs[j]? = some v → w.cell? (a.add j) = some v
theorem holds_blk {b o n : Nat} {c : Array Value} {T : TypeId} {fz : Nat × Nat} (hb : w.heap[b]? = some (.cells c T fz)) (_hn : o + n ≤ c.size) : Holds w ⟨b, o, none⟩ ((c.toList.drop o).take n) := by
  intro j v hv
  rw [add_lit, cell_of hb]
  rw [List.getElem?_take] at hv
  split at hv
  · simpa using hv
  · cases hv
theorem x_copy {dT sT e : TypeId} {cs : Array Bool} {g o dLen dCap sz sLen sCap : Nat} {a : Addr} {cur : Array Value} {T : TypeId} {xs : List Value} [hu : UT P dT (.slice e)] [hs : SZ P e sz]
    (hg : w.heap[g]? = some (.cells cur T (0, 0))) (hn : xs.length = Nat.min sLen dLen * sz) (hx : Holds w a xs) (hfit : o + xs.length ≤ cur.size) (h1 : ∀ v ∈ xs, v.oneCell' = true)
    (h : K (.int .i64 (Nat.min sLen dLen)) (setBlk w g (.cells (lay cur o xs) T (0, 0)))) : X P (.callB .copy #[dT, sT] cs #[.slice (some ⟨g, o, none⟩) dLen dCap, .slice (some a) sLen sCap]) ty w K E := by
  refine .run (v := .int .i64 (Nat.min sLen dLen)) ?_ h
  have hl := run_loadCells_list (P := P) w a xs hx
  rw [hn] at hl
  have hst := run_storeL (P := P) (w := w) hg hfit h1
  have hsr : (sizeOf e).run P w = .ok sz w := by
    have hs' := hs.h
    cases hi : P.info? e with
    | none => rw [hi] at hs'; cases hs'
    | some i =>
      have he : i.size = sz := by rw [hi] at hs'; exact Option.some.inj hs'
      simp [sizeOf, typeInfo, hi, he]
  simp [Cop.sem, builtin, Builtin.copy_, run_underlying hu.h, Builtin.lenOf, Builtin.firstCells, hsr, hl, hst, goInt]
theorem x_copy0 {dT sT e : TypeId} {cs : Array Bool} {dLen dCap sz sLen sCap : Nat} {a b : Option Addr} [hu : UT P dT (.slice e)] [hs : SZ P e sz]
    (hn : Nat.min sLen dLen = 0)
    (h : K (.int .i64 0) w) : X P (.callB .copy #[dT, sT] cs #[.slice b dLen dCap, .slice a sLen sCap]) ty w K E := by
  refine .run (v := .int .i64 0) ?_ h
  have hsr : (sizeOf e).run P w = .ok sz w := by
    have hs' := hs.h
    cases hi : P.info? e with
    | none => rw [hi] at hs'; cases hs'
    | some i =>
      have he : i.size = sz := by rw [hi] at hs'; exact Option.some.inj hs'
      simp [sizeOf, typeInfo, hi, he]
  cases a <;> cases b <;> simp [Cop.sem, builtin, Builtin.copy_, run_underlying hu.h, Builtin.lenOf, Builtin.firstCells, hsr, hn, goInt, loadCells, loadCellsFrom, storeCells]
theorem x_append {t e : TypeId} {cs : Array Bool} {size bytes : Nat} {z : Array Value} {base : Nat} {v : Value} {n : Nat} {xs news : List Value} {a : Addr} {m c : Nat} [hu : UT P t (.slice e)] [he : EL P e size bytes z]
    (hown : w.ownsRow base e size v n xs) (hl : news.length = m * size) (hx : Holds w a news) (h1 : ∀ u ∈ news, u.oneCell' = true) (h63 : n + m ≤ maxLen) (hby : (n + m) * bytes ≤ 140737488355328) (hbase : base ≤ w.heap.size)
    (h : ∀ v' w', w'.ownsRow base e size v' (n + m) (xs ++ news) → w.grownBy w' v.ownBlock → K v' w') : X P (.callB .append #[t, t] cs #[v, .slice (some a) m c]) ty w K E := by
  obtain ⟨i, zv, g1, g2, g3, g4, rfl, g5, g6⟩ := he.h
  obtain ⟨v', w', k1, k2, k3, _⟩ := run_append_own (P := P) w base t ty e i zv size bytes hu.h g1 g2 g3 g4 g5 g6 v n xs hown a m c news hl hx h1 h63 hby hbase
  exact .run (by simp [Cop.sem, builtin, k1]) (h v' w' k2 k3)
theorem x_str {s d e : TypeId} {b o len cap : Nat} {xs : List Int} [hs : UT P s (.slice e)] [he : UT P e (.int .u8)] [hd : UT P d .string] (hlen : xs.length = len) (hx : Holds w ⟨b, o, none⟩ (xs.map (Value.int .u8)))
    (h : K (.string (strOfNums xs)) w) : X P (.conv s d (.slice (some ⟨b, o, none⟩) len cap)) ty w K E := by
  refine .run (v := .string (strOfNums xs)) (w' := w) ?_ h
  have := run_convert_bytes_arg_in (P := P) (w := w) (w' := w) (World.Extends.refl w) s e hs.h he.h b o len cap xs hlen (fun i hi => by
    have hi' : i < xs.length := by omega
    have := hx i (.int .u8 (xs.getD i 0)) (by simp [List.getD, hi'])
    rwa [add_lit] at this) d hd.h
  simp [Cop.sem, this]
theorem x_eqlT {t : TypeId} {cx cy : Bool} {a b : ByteArray} (he : a = b) (hy : K (.bool true) w) : X P (.bin .eql t cx cy (.string a) (.string b)) ty w K E := by
  subst he
  refine .run (v := .bool true) (w' := w) ?_ hy
  simp [Cop.sem, eqG, eqGuard, binOp, Op.stringOp, Sem.run, bind, Sem.bind, pure]
theorem xres_val {vs : List Value} {R : Value → World → Prop} (hl : vs.length ≠ 1) {rs : List (Value × Option TypeId)}
    (hr : (rs.toArray.mapM fun (p : Value × Option TypeId) => match p.2 with | none => (pure p.1 : Sem Value) | some t => do loadVar t (← asAddr p.1)).run P w = .ok vs.toArray w) (h : R (.tuple vs.toArray) w) : XRes P rs w R := by
  refine ⟨.tuple vs.toArray, ?_, h⟩
  have : ¬ (vs.toArray.size = 1) := by simpa using hl
  rw [Sem.run_bind]
  refine Eq.trans (congrArg (fun r => Result.andThen r _) hr) ?_
  simp
  exact fun h => absurd h hl
def RV (P : Program) (w : World) (p : Value × Option TypeId) (v : Value) : Prop := (match p.2 with | none => (pure p.1 : Sem Value) | some t => do loadVar t (← asAddr p.1)).run P w = .ok v w
theorem rv_val {v : Value} : RV P w (v, none) v := rfl
theorem rv_load1 {t : TypeId} {b o : Nat} {c : Array Value} {T : TypeId} {fz : Nat × Nat} {v : Value} [hs : S1 P t] (hb : w.heap[b]? = some (.cells c T fz)) (hc : c[o]? = some v) : RV P w (.pointer (some ⟨b, o, none⟩), some t) v := by
  obtain ⟨d, h1, h2⟩ := hs.h
  simp [RV, asAddr, run_load1 h1 h2 hb hc]
theorem rv_loadA {t : TypeId} {b o n : Nat} {c vs : Array Value} {T : TypeId} {fz : Nat × Nat} [hs : SA P t n] (hb : w.heap[b]? = some (.cells c T fz)) (hc : SubAt c o n vs) : RV P w (.pointer (some ⟨b, o, none⟩), some t) (.agg vs) := by
  obtain ⟨d, h1, h2⟩ := hs.h
  obtain ⟨h3, rfl⟩ := hc
  simp [RV, asAddr, run_loadA h1 h2 hs.s hb h3]
theorem xres_2 {p q : Value × Option TypeId} {a b : Value} {R : Value → World → Prop} (hp : RV P w p a) (hq : RV P w q b) (h : R (.tuple #[a, b]) w) : XRes P [p, q] w R := by
  refine xres_val (vs := [a, b]) (by simp) ?_ h
  unfold RV at hp hq
  rw [Array.mapM_eq_mapM_toList]
  simp only [List.mapM_cons, List.mapM_nil, Sem.run_bind, Sem.run_map, hp, hq, Result.andThen_ok, Sem.run_pure]
theorem xres_3 {p q r : Value × Option TypeId} {a b c : Value} {R : Value → World → Prop} (hp : RV P w p a) (hq : RV P w q b) (hr : RV P w r c) (h : R (.tuple #[a, b, c]) w) : XRes P [p, q, r] w R := by
  refine xres_val (vs := [a, b, c]) (by simp) ?_ h
  unfold RV at hp hq hr
  rw [Array.mapM_eq_mapM_toList]
  simp only [List.mapM_cons, List.mapM_nil, Sem.run_bind, Sem.run_map, hp, hq, hr, Result.andThen_ok, Sem.run_pure]
theorem xres_1 {p : Value × Option TypeId} {a : Value} {R : Value → World → Prop} (hp : RV P w p a) (h : R a w) : XRes P [p] w R := by
  refine ⟨a, ?_, h⟩
  unfold RV at hp
  obtain ⟨x, t⟩ := p
  rw [Sem.run_bind, Array.mapM_eq_mapM_toList]
  cases t with
  | none => simp at hp; simp [List.mapM_cons, hp]
  | some t =>
    simp only [Sem.run_bind] at hp
    cases hq : Sem.run P (asAddr x) w with
    | halt _ _ => rw [hq] at hp; simp [Result.andThen] at hp
    | ok b w1 =>
      rw [hq] at hp
      simp only [Result.andThen_ok] at hp
      simp [List.mapM_cons, hq, hp]
end
end Go.Eng
namespace Go.Eng
def Cop.vals : Cop → Bool
  | .val _ | .pick .. | .load .. | .bin .. | .un .. | .conv .. | .mkFunc .. | .slice .. | .fieldAddr .. | .field .. | .indexAddr .. | .index .. | .lookup .. | .extract .. | .callB .len .. | .callB .cap .. | .callB .min .. | .nilCheck _ | .build .. => true
  | _ => false
theorem vals_sem {c : Cop} {ty : TypeId} (h : c.vals = true) : ∃ m : Sem Value, c.sem ty = m >>= fun v => pure (.value v) := by
  cases c <;> try simp only [Cop.vals, Bool.false_eq_true] at h <;> try exact ⟨_, rfl⟩
  case pick c a b => exact ⟨do pure (if ← asBool c then a else b), by simp [Cop.sem]⟩
  case callB b _ _ _ =>
    cases b <;> simp only [Cop.vals, Bool.false_eq_true] at h <;> exact ⟨_, rfl⟩
  case val v => exact ⟨pure v, rfl⟩
  case nilCheck x =>
    refine ⟨match x with
    | .pointer none | .nilIface | .nilFunc => runtimePanic .nilDeref
    | .func (.method _) _ _ => stuck "engine: nilCheck of a method value"
    | x => pure x, ?_⟩
    cases x <;> try rfl
    case pointer p => cases p <;> rfl
    case func f _ _ => cases f <;> rfl
theorem XQ.of {P : Program} {c : Cop} {ty : TypeId} {w : World} {K : Value → Prop} (hc : c.vals = true) (h : X P c ty w (fun v w' => w' = w ∧ K v) (fun _ _ => False)) : XQ P c ty w K := by
  obtain ⟨m, hm⟩ := vals_sem (ty := ty) hc
  have h := h.out
  refine ⟨?_⟩
  unfold XQ0
  unfold X0 at h
  rw [hm, Sem.run_bind] at h ⊢
  generalize m.run P w = r at *
  cases r with
  | ok v w' => exact h
  | halt x w' => cases x <;> exact h.elim
theorem Ext.trans {a b c : World} (h : Ext a b) (k : Ext b c) : Ext a c := Fr.trans h k
theorem Ext.drw_self (w : World) : Ext w (drw w) := (Fr.refl _ w).drw
theorem Fr.get {S : Nat → Prop} {w w' : World} (h : Fr S w w') {r : Nat} {o : Obj} (hs : ¬ S r) (hr : w.heap[r]? = some o) : w'.heap[r]? = some o := Ext.at h hr hs
theorem Fr.lt {S : Nat → Prop} {w w' : World} (h : Fr S w w') {r : Nat} (hr : r < w.heap.size) : r < w'.heap.size := Nat.lt_of_lt_of_le hr h.size
section
variable {P : Program} {w : World} {ty : TypeId} {K : Value → World → Prop} {E : List PanicEntry → World → Prop}
end
theorem at_1 {a b : Value} {l : List Value} : (List.toArray (a :: b :: l))[1]? = some b := by simp
theorem at_2 {a b c : Value} {l : List Value} : (List.toArray (a :: b :: c :: l))[2]? = some c := by simp
theorem qstep {w : World} {p : Prop} (h : p) : w = w ∧ p := ⟨rfl, h⟩
theorem oneI {k : IntKind} {n : Int} : (Value.int k n).oneCell' = true := rfl
theorem oneB {b : Bool} : (Value.bool b).oneCell' = true := rfl
theorem oneP {b : Option Addr} : (Value.pointer b).oneCell' = true := rfl
theorem oneM {b : Option Nat} : (Value.map b).oneCell' = true := rfl
theorem oneS {b : Option Addr} {n c : Nat} : (Value.slice b n c).oneCell' = true := rfl
theorem lt_alloc_new {w : World} {o : Obj} : w.heap.size < (w.alloc o).heap.size := by rw [size_alloc]; omega
theorem lt_alloc {w : World} {o : Obj} {b : Nat} (h : b < w.heap.size) : b < (w.alloc o).heap.size := by rw [size_alloc]; omega
theorem lt_set {w : World} {o : Obj} {b c : Nat} (h : b < w.heap.size) : b < (setBlk w c o).heap.size := by rw [size_set]; omega
theorem blk_alloc_eq {w : World} {o : Obj} {r : Nat} (h : r = w.heap.size) : (w.alloc o).heap[r]? = some o := by rw [h]; exact blk_alloc_new
theorem blk_alloc_old' {w : World} {o o' : Obj} {r : Nat} (h : w.heap[r]? = some o') : (w.alloc o).heap[r]? = some o' := (blk_alloc_old (lt_of_blk h)).trans h
theorem blk_set_ne' {w : World} {b r : Nat} {o o' : Obj} (h : w.heap[r]? = some o') (hne : r ≠ b) : (setBlk w b o).heap[r]? = some o' := (blk_set_ne hne).trans h
section
variable {P : Program} {w : World} {ty : TypeId} {K : Value → World → Prop} {E : List PanicEntry → World → Prop}
theorem x_slF {t e : TypeId} {b o len cap sz : Nat} {k : IntKind} {l : Nat} [hu : UT P t (.slice e)] [hs : SZ P e sz] (h1 : l ≤ len) (h2 : l < cap)
    (hk : K (.slice (some ⟨b, o + l * sz, none⟩) (len - l) (cap - l)) w) : X P (.slice t (.slice (some ⟨b, o, none⟩) len cap) (some (.int k (l : Nat))) none none) ty w K E := by
  refine x_sliceSl (by omega) (by omega) ?_
  rw [if_neg (by simp; omega)]
  exact hk
theorem x_slA {t e : TypeId} {b o n sz : Nat} {k k' : IntKind} {l h : Nat} [hu : UT P t (.array n e)] [hs : SZ P e sz] (h1 : l ≤ h) (h2 : h ≤ n) (h3 : l < n)
    (hk : K (.slice (some ⟨b, o + l * sz, none⟩) (h - l) (n - l)) w) : X P (.slice t (.pointer (some ⟨b, o, none⟩)) (some (.int k (l : Nat))) (some (.int k' (h : Nat))) none) ty w K E := by
  refine x_sliceA (by omega) (by omega) (by omega) ?_
  rw [if_neg (by simp; omega)]
  exact hk
theorem x_makeN {t e : TypeId} {sz bytes : Nat} {z : Array Value} {kl kc : IntKind} {n : Nat} [hu : UT P t (.slice e)] [he : EL P e sz bytes z] (h2 : (bytes : Int) * n ≤ 281474976710656) (h3 : (n : Int) ≤ 9223372036854775807)
    (h : K (.slice (some ⟨w.heap.size, 0, none⟩) n n) (w.alloc (.cells (madeCells z (n * sz)) e (0, 0)))) : X P (.makeSlice t (.int kl (n : Nat)) (.int kc (n : Nat))) ty w K E := by
  refine x_make (by omega) (Int.le_refl _) h2 h3 ?_
  simpa using h
theorem or_add {a c k : Nat} (h : a < 2 ^ k) (hw : a + c * 2 ^ k < 4294967296) : (Op.intBits .or .u32 (a : Nat) (c * 2 ^ k : Nat) : Sem Value) = pure (.int .u32 (a + c * 2 ^ k : Nat)) := by
  have e : a ||| (c * 2 ^ k) = a + c * 2 ^ k := by
    rw [Nat.mul_comm c, Nat.or_comm, ← Nat.two_pow_add_eq_or_of_lt h, Nat.add_comm]
  have h1 : (BitVec.ofInt 32 (a : Nat) ||| BitVec.ofInt 32 ((c * 2 ^ k : Nat) : Int)).toNat = a + c * 2 ^ k := by
    rw [BitVec.toNat_or]
    simp only [BitVec.ofInt_natCast, BitVec.toNat_ofNat]
    rw [Nat.mod_eq_of_lt (by omega), Nat.mod_eq_of_lt (by omega), e]
  show (pure (Value.int .u32 (IntKind.u32.wrap ((BitVec.ofInt 32 (a : Nat) ||| BitVec.ofInt 32 ((c * 2 ^ k : Nat) : Int)).toNat : Nat))) : Sem Value) = _
  rw [h1, IntKind.wrap_u32]
  congr 2
  omega
theorem x_orN {t : TypeId} {cx cy : Bool} {a c k : Nat} (h : a < 2 ^ k) (hw : a + c * 2 ^ k < 4294967296) (hk : K (.int .u32 (a + c * 2 ^ k : Nat)) w) : X P (.bin .or t cx cy (.int .u32 (a : Nat)) (.int .u32 (c * 2 ^ k : Nat))) ty w K E :=
  x_bits (or_add h hw) (.inr (.inl rfl)) hk
theorem x_shlN' {t : TypeId} {cx cy : Bool} {kk : IntKind} {a s : Nat} {b : Int} (hb : b = s) (h1 : s ≤ 32) (hw : a * 2 ^ s < 4294967296) (h : K (.int .u32 (a * 2 ^ s : Nat)) w) : X P (.bin .shl t cx cy (.int .u32 (a : Nat)) (.int kk b)) ty w K E := by
  subst hb
  have e : ((a : Int) * 2 ^ s) = ((a * 2 ^ s : Nat) : Int) := by push_cast; rfl
  refine x_shlN (by omega) (by simp only [IntKind.bits]; omega) ?_ ?_
  · rw [Int.toNat_natCast, e, IntKind.wrap_u32]; omega
  · rw [Int.toNat_natCast, e]; exact h
theorem x_bs_1 {t e : TypeId} {by' : Nat} {z a : Value} [hu : UT P t (.slice e)] [hs : EL P e 1 by' #[z]] (ha : a.oneCell' = true) (h : K (.slice (some ⟨w.heap.size, 0, none⟩) 1 1) (w.alloc (.cells #[a] e (0, 0)))) : X P (.buildSlice t 1 #[(0, a)]) ty w K E :=
  x_buildSlice (ps := [(0, a)]) (z' := #[z]) (by decide) (by decide) ((madeCells_1 z (1 * 1)).trans rfl) (fill_1 ⟨rfl, rfl⟩ ha set_0 fill_nil) h
theorem x_bs_4 {t e : TypeId} {by' : Nat} {z a b c d : Value} [hu : UT P t (.slice e)] [hs : EL P e 1 by' #[z]] (ha : a.oneCell' = true) (hb : b.oneCell' = true) (hc : c.oneCell' = true) (hd : d.oneCell' = true)
    (h : K (.slice (some ⟨w.heap.size, 0, none⟩) 4 4) (w.alloc (.cells #[a, b, c, d] e (0, 0)))) : X P (.buildSlice t 4 #[(0, a), (1, b), (2, c), (3, d)]) ty w K E :=
  x_buildSlice (ps := [(0, a), (1, b), (2, c), (3, d)]) (z' := #[z, z, z, z]) (by decide) (by decide) ((madeCells_1 z (4 * 1)).trans rfl) (fill_1 ⟨rfl, rfl⟩ ha set_0 (fill_1 (off := 1) ⟨rfl, rfl⟩ hb (set_S set_0) (fill_1 (off := 2) ⟨rfl, rfl⟩ hc (set_S (set_S set_0)) (fill_1 (off := 3) ⟨rfl, rfl⟩ hd (set_S (set_S (set_S set_0))) fill_nil)))) h
theorem x_min2 {cs : Array Bool} {ats : Array TypeId} {k : IntKind} {a b : Int} (ht : b < a → K (.int k b) w) (hf : ¬ b < a → K (.int k a) w) : X P (.callB .min ats cs #[.int k a, .int k b]) ty w K E := by
  refine x_min ?_
  by_cases h : b < a
  · rw [if_pos h]; exact ht h
  · rw [if_neg h]; exact hf h
theorem C_args {f : FuncId} {a b : Array Value} (h : C P f a w K E) (e : a = b) : C P f b w K E := e ▸ h
theorem x_neqP {t e : TypeId} [hu : UT P t (.pointer e)] {cx cy : Bool} {b : Addr} (h : K (.bool true) w) : X P (.bin .neq t cx cy (.pointer (some b)) (.pointer none)) ty w K E := x_neqP0 h
theorem x_neqPn {t e : TypeId} [hu : UT P t (.pointer e)] {cx cy : Bool} (h : K (.bool false) w) : X P (.bin .neq t cx cy (.pointer none) (.pointer none)) ty w K E := x_neqP0 h
theorem x_eqlP {t e : TypeId} [hu : UT P t (.pointer e)] {cx cy : Bool} {b : Addr} (h : K (.bool false) w) : X P (.bin .eql t cx cy (.pointer (some b)) (.pointer none)) ty w K E := x_eqlP0 h
theorem x_eqlPn {t e : TypeId} [hu : UT P t (.pointer e)] {cx cy : Bool} (h : K (.bool true) w) : X P (.bin .eql t cx cy (.pointer none) (.pointer none)) ty w K E := x_eqlP0 h
end
end Go.Eng
namespace Go.Eng
open Go.Proofs
set_option maxRecDepth 100000
noncomputable abbrev P : Program := Go.Proofs.Tryz.prog
instance s1 : SZ P 1 1 := ⟨by kernel_rfl⟩
instance o1 : S1 P 1 := ⟨⟨_, Tryz.underlying1, rfl⟩, s1.h⟩
instance v1 : ZV P 1 (.nilFunc) := ⟨by kernel_rfl⟩
instance e1 : EL P 1 1 8 #[.nilFunc] := ⟨⟨_, .nilFunc, (by kernel_rfl : _ = some ((P.info? 1).getD default)), by kernel_rfl, by kernel_rfl, by kernel_rfl, rfl, rfl, by decide⟩⟩
instance s2 : SZ P 2 1 := ⟨by kernel_rfl⟩
instance o2 : S1 P 2 := ⟨⟨_, Tryz.underlying2, rfl⟩, s2.h⟩
instance k2 : KeyT P 2 (Go.MapKept.IsKey (.int .i64)) := keyT_plain Tryz.underlying2
instance v2 : ZV P 2 (.int .i64 0) := ⟨by kernel_rfl⟩
instance e2 : EL P 2 1 8 #[.int .i64 0] := ⟨⟨_, .int .i64 0, (by kernel_rfl : _ = some ((P.info? 2).getD default)), by kernel_rfl, by kernel_rfl, by kernel_rfl, rfl, rfl, by decide⟩⟩
instance u3 : UT P 3 (.int .i64) := ⟨Tryz.underlying3⟩
instance s3 : SZ P 3 1 := ⟨by kernel_rfl⟩
instance o3 : S1 P 3 := ⟨⟨_, Tryz.underlying3, rfl⟩, s3.h⟩
instance k3 : KeyT P 3 (Go.MapKept.IsKey (.int .i64)) := keyT_plain Tryz.underlying3
instance v3 : ZV P 3 (.int .i64 0) := ⟨by kernel_rfl⟩
instance e3 : EL P 3 1 8 #[.int .i64 0] := ⟨⟨_, .int .i64 0, (by kernel_rfl : _ = some ((P.info? 3).getD default)), by kernel_rfl, by kernel_rfl, by kernel_rfl, rfl, rfl, by decide⟩⟩
instance s4 : SZ P 4 1 := ⟨by kernel_rfl⟩
instance o4 : S1 P 4 := ⟨⟨_, Tryz.underlying4, rfl⟩, s4.h⟩
instance k4 : KeyT P 4 (Go.MapKept.IsKey (.bool)) := keyT_plain Tryz.underlying4
instance v4 : ZV P 4 (.bool false) := ⟨by kernel_rfl⟩
instance e4 : EL P 4 1 1 #[.bool false] := ⟨⟨_, .bool false, (by kernel_rfl : _ = some ((P.info? 4).getD default)), by kernel_rfl, by kernel_rfl, by kernel_rfl, rfl, rfl, by decide⟩⟩
instance u5 : UT P 5 (.int .u8) := ⟨Tryz.underlying5⟩
instance s5 : SZ P 5 1 := ⟨by kernel_rfl⟩
instance o5 : S1 P 5 := ⟨⟨_, Tryz.underlying5, rfl⟩, s5.h⟩
instance k5 : KeyT P 5 (Go.MapKept.IsKey (.int .u8)) := keyT_plain Tryz.underlying5
instance v5 : ZV P 5 (.int .u8 0) := ⟨by kernel_rfl⟩
instance e5 : EL P 5 1 1 #[.int .u8 0] := ⟨⟨_, .int .u8 0, (by kernel_rfl : _ = some ((P.info? 5).getD default)), by kernel_rfl, by kernel_rfl, by kernel_rfl, rfl, rfl, by decide⟩⟩
instance s6 : SZ P 6 1 := ⟨by kernel_rfl⟩
instance o6 : S1 P 6 := ⟨⟨_, Tryz.underlying6, rfl⟩, s6.h⟩
instance k6 : KeyT P 6 (Go.MapKept.IsKey (.int .u8)) := keyT_plain Tryz.underlying6
instance v6 : ZV P 6 (.int .u8 0) := ⟨by kernel_rfl⟩
instance e6 : EL P 6 1 1 #[.int .u8 0] := ⟨⟨_, .int .u8 0, (by kernel_rfl : _ = some ((P.info? 6).getD default)), by kernel_rfl, by kernel_rfl, by kernel_rfl, rfl, rfl, by decide⟩⟩
instance s7 : SZ P 7 4 := ⟨by kernel_rfl⟩
instance a7 : SA P 7 4 := ⟨⟨_, Tryz.underlying7, rfl⟩, s7.h⟩
instance v7 : ZV P 7 (.agg #[.int .i64 0, .int .i64 0, .bool false, .int .u8 0]) := ⟨by kernel_rfl⟩
instance e7 : EL P 7 4 24 #[.int .i64 0, .int .i64 0, .bool false, .int .u8 0] := ⟨⟨_, .agg #[.int .i64 0, .int .i64 0, .bool false, .int .u8 0], (by kernel_rfl : _ = some ((P.info? 7).getD default)), by kernel_rfl, by kernel_rfl, by kernel_rfl, rfl, rfl, by decide⟩⟩
instance s8 : SZ P 8 4 := ⟨by kernel_rfl⟩
instance a8 : SA P 8 4 := ⟨⟨_, Tryz.underlying8, rfl⟩, s8.h⟩
instance v8 : ZV P 8 (.agg #[.int .i64 0, .int .i64 0, .bool false, .int .u8 0]) := ⟨by kernel_rfl⟩
instance e8 : EL P 8 4 24 #[.int .i64 0, .int .i64 0, .bool false, .int .u8 0] := ⟨⟨_, .agg #[.int .i64 0, .int .i64 0, .bool false, .int .u8 0], (by kernel_rfl : _ = some ((P.info? 8).getD default)), by kernel_rfl, by kernel_rfl, by kernel_rfl, rfl, rfl, by decide⟩⟩
instance u9 : UT P 9 (.string) := ⟨Tryz.underlying9⟩
instance s9 : SZ P 9 1 := ⟨by kernel_rfl⟩
instance o9 : S1 P 9 := ⟨⟨_, Tryz.underlying9, rfl⟩, s9.h⟩
instance v9 : ZV P 9 (.string ⟨#[]⟩) := ⟨by kernel_rfl⟩
instance e9 : EL P 9 1 16 #[.string ⟨#[]⟩] := ⟨⟨_, .string ⟨#[]⟩, (by kernel_rfl : _ = some ((P.info? 9).getD default)), by kernel_rfl, by kernel_rfl, by kernel_rfl, rfl, rfl, by decide⟩⟩
instance s10 : SZ P 10 1 := ⟨by kernel_rfl⟩
instance o10 : S1 P 10 := ⟨⟨_, Tryz.underlying10, rfl⟩, s10.h⟩
instance v10 : ZV P 10 (.string ⟨#[]⟩) := ⟨by kernel_rfl⟩
instance e10 : EL P 10 1 16 #[.string ⟨#[]⟩] := ⟨⟨_, .string ⟨#[]⟩, (by kernel_rfl : _ = some ((P.info? 10).getD default)), by kernel_rfl, by kernel_rfl, by kernel_rfl, rfl, rfl, by decide⟩⟩
instance s11 : SZ P 11 1 := ⟨by kernel_rfl⟩
instance v11 : ZV P 11 (.string ⟨#[]⟩) := ⟨by kernel_rfl⟩
instance e11 : EL P 11 1 16 #[.string ⟨#[]⟩] := ⟨⟨_, .string ⟨#[]⟩, (by kernel_rfl : _ = some ((P.info? 11).getD default)), by kernel_rfl, by kernel_rfl, by kernel_rfl, rfl, rfl, by decide⟩⟩
instance v12 : ZV P 12 (.int .u64 0) := ⟨by kernel_rfl⟩
instance e12 : EL P 12 1 8 #[.int .u64 0] := ⟨⟨_, .int .u64 0, (by kernel_rfl : _ = some ((P.info? 12).getD default)), by kernel_rfl, by kernel_rfl, by kernel_rfl, rfl, rfl, by decide⟩⟩
instance s13 : SZ P 13 2 := ⟨by kernel_rfl⟩
instance v13 : ZV P 13 (.agg #[.string ⟨#[]⟩, .int .u64 0]) := ⟨by kernel_rfl⟩
instance e13 : EL P 13 2 24 #[.string ⟨#[]⟩, .int .u64 0] := ⟨⟨_, .agg #[.string ⟨#[]⟩, .int .u64 0], (by kernel_rfl : _ = some ((P.info? 13).getD default)), by kernel_rfl, by kernel_rfl, by kernel_rfl, rfl, rfl, by decide⟩⟩
instance v14 : ZV P 14 (.agg #[.string ⟨#[]⟩, .int .u64 0]) := ⟨by kernel_rfl⟩
instance e14 : EL P 14 2 24 #[.string ⟨#[]⟩, .int .u64 0] := ⟨⟨_, .agg #[.string ⟨#[]⟩, .int .u64 0], (by kernel_rfl : _ = some ((P.info? 14).getD default)), by kernel_rfl, by kernel_rfl, by kernel_rfl, rfl, rfl, by decide⟩⟩
instance v15 : ZV P 15 (.pointer none) := ⟨by kernel_rfl⟩
instance e15 : EL P 15 1 8 #[.pointer none] := ⟨⟨_, .pointer none, (by kernel_rfl : _ = some ((P.info? 15).getD default)), by kernel_rfl, by kernel_rfl, by kernel_rfl, rfl, rfl, by decide⟩⟩
instance v16 : ZV P 16 (.pointer none) := ⟨by kernel_rfl⟩
instance v17 : ZV P 17 (.pointer none) := ⟨by kernel_rfl⟩
instance v18 : ZV P 18 (.agg #[.pointer none]) := ⟨by kernel_rfl⟩
instance v19 : ZV P 19 (.agg #[.pointer none]) := ⟨by kernel_rfl⟩
instance v20 : ZV P 20 (.nilIface) := ⟨by kernel_rfl⟩
instance v21 : ZV P 21 (.int .i32 0) := ⟨by kernel_rfl⟩
instance u22 : UT P 22 (.slice 66) := ⟨Tryz.underlying22⟩
instance v22 : ZV P 22 (.slice none 0 0) := ⟨by kernel_rfl⟩
instance u23 : UT P 23 (.slice 40) := ⟨Tryz.underlying23⟩
instance v23 : ZV P 23 (.slice none 0 0) := ⟨by kernel_rfl⟩
instance e23 : EL P 23 1 24 #[.slice none 0 0] := ⟨⟨_, .slice none 0 0, (by kernel_rfl : _ = some ((P.info? 23).getD default)), by kernel_rfl, by kernel_rfl, by kernel_rfl, rfl, rfl, by decide⟩⟩
instance v24 : ZV P 24 (.nilFunc) := ⟨by kernel_rfl⟩
instance e24 : EL P 24 1 8 #[.nilFunc] := ⟨⟨_, .nilFunc, (by kernel_rfl : _ = some ((P.info? 24).getD default)), by kernel_rfl, by kernel_rfl, by kernel_rfl, rfl, rfl, by decide⟩⟩
instance u25 : UT P 25 (.slice 57) := ⟨Tryz.underlying25⟩
instance v25 : ZV P 25 (.slice none 0 0) := ⟨by kernel_rfl⟩
instance e25 : EL P 25 1 24 #[.slice none 0 0] := ⟨⟨_, .slice none 0 0, (by kernel_rfl : _ = some ((P.info? 25).getD default)), by kernel_rfl, by kernel_rfl, by kernel_rfl, rfl, rfl, by decide⟩⟩
instance v26 : ZV P 26 (.nilFunc) := ⟨by kernel_rfl⟩
instance v27 : ZV P 27 (.agg #[.int .i64 0, .int .i64 0, .int .i64 0]) := ⟨by kernel_rfl⟩
instance e27 : EL P 27 3 24 #[.int .i64 0, .int .i64 0, .int .i64 0] := ⟨⟨_, .agg #[.int .i64 0, .int .i64 0, .int .i64 0], (by kernel_rfl : _ = some ((P.info? 27).getD default)), by kernel_rfl, by kernel_rfl, by kernel_rfl, rfl, rfl, by decide⟩⟩
instance s28 : SZ P 28 3 := ⟨by kernel_rfl⟩
instance a28 : SA P 28 3 := ⟨⟨_, Tryz.underlying28, rfl⟩, s28.h⟩
instance f28_0 : FO P 28 0 0 := ⟨⟨_, _, _, Tryz.underlying28, rfl, s3.h, by decide, rfl⟩⟩
instance p28_0 : PL P 28 0 0 1 := ⟨⟨_, _, Tryz.underlying28, rfl, rfl, s3.h⟩⟩
instance f28_1 : FO P 28 1 1 := ⟨⟨_, _, _, Tryz.underlying28, rfl, s3.h, by decide, rfl⟩⟩
instance p28_1 : PL P 28 1 1 1 := ⟨⟨_, _, Tryz.underlying28, rfl, rfl, s3.h⟩⟩
instance f28_2 : FO P 28 2 2 := ⟨⟨_, _, _, Tryz.underlying28, rfl, s3.h, by decide, rfl⟩⟩
instance p28_2 : PL P 28 2 2 1 := ⟨⟨_, _, Tryz.underlying28, rfl, rfl, s3.h⟩⟩
instance ss28 : SS P 28 := ⟨⟨_, [1, 1, 1], Tryz.underlying28, by kernel_rfl⟩⟩
instance v28 : ZV P 28 (.agg #[.int .i64 0, .int .i64 0, .int .i64 0]) := ⟨by kernel_rfl⟩
instance z28 : ZC P 28 #[.int .i64 0, .int .i64 0, .int .i64 0] := ⟨⟨_, (by kernel_rfl : _ = some (.agg #[.int .i64 0, .int .i64 0, .int .i64 0])), rfl⟩⟩
instance v29 : ZV P 29 (.nilFunc) := ⟨by kernel_rfl⟩
instance v30 : ZV P 30 (.nilFunc) := ⟨by kernel_rfl⟩
instance u31 : UT P 31 (.pointer 46) := ⟨Tryz.underlying31⟩
instance v31 : ZV P 31 (.pointer none) := ⟨by kernel_rfl⟩
instance u34 : UT P 34 (.slice 5) := ⟨Tryz.underlying34⟩
instance s34 : SZ P 34 1 := ⟨by kernel_rfl⟩
instance o34 : S1 P 34 := ⟨⟨_, Tryz.underlying34, rfl⟩, s34.h⟩
instance v34 : ZV P 34 (.slice none 0 0) := ⟨by kernel_rfl⟩
instance e34 : EL P 34 1 24 #[.slice none 0 0] := ⟨⟨_, .slice none 0 0, (by kernel_rfl : _ = some ((P.info? 34).getD default)), by kernel_rfl, by kernel_rfl, by kernel_rfl, rfl, rfl, by decide⟩⟩
instance z34 : ZC P 34 #[.slice none 0 0] := ⟨⟨_, (by kernel_rfl : _ = some (.slice none 0 0)), rfl⟩⟩
instance s35 : SZ P 35 1 := ⟨by kernel_rfl⟩
instance v35 : ZV P 35 (.agg #[.slice none 0 0]) := ⟨by kernel_rfl⟩
instance e35 : EL P 35 1 24 #[.slice none 0 0] := ⟨⟨_, .agg #[.slice none 0 0], (by kernel_rfl : _ = some ((P.info? 35).getD default)), by kernel_rfl, by kernel_rfl, by kernel_rfl, rfl, rfl, by decide⟩⟩
instance f36_0 : FO P 36 0 0 := ⟨⟨_, _, _, Tryz.underlying36, rfl, s34.h, by decide, rfl⟩⟩
instance p36_0 : PL P 36 0 0 1 := ⟨⟨_, _, Tryz.underlying36, rfl, rfl, s34.h⟩⟩
instance ss36 : SS P 36 := ⟨⟨_, [1], Tryz.underlying36, by kernel_rfl⟩⟩
instance v36 : ZV P 36 (.agg #[.slice none 0 0]) := ⟨by kernel_rfl⟩
instance e36 : EL P 36 1 24 #[.slice none 0 0] := ⟨⟨_, .agg #[.slice none 0 0], (by kernel_rfl : _ = some ((P.info? 36).getD default)), by kernel_rfl, by kernel_rfl, by kernel_rfl, rfl, rfl, by decide⟩⟩
instance z36 : ZC P 36 #[.slice none 0 0] := ⟨⟨_, (by kernel_rfl : _ = some (.agg #[.slice none 0 0])), rfl⟩⟩
instance e37 : EL P 37 1 8 #[.nilFunc] := ⟨⟨_, .nilFunc, (by kernel_rfl : _ = some ((P.info? 37).getD default)), by kernel_rfl, by kernel_rfl, by kernel_rfl, rfl, rfl, by decide⟩⟩
instance u38 : UT P 38 (.int .u32) := ⟨Tryz.underlying38⟩
instance s38 : SZ P 38 1 := ⟨by kernel_rfl⟩
instance o38 : S1 P 38 := ⟨⟨_, Tryz.underlying38, rfl⟩, s38.h⟩
instance k38 : KeyT P 38 (Go.MapKept.IsKey (.int .u32)) := keyT_plain Tryz.underlying38
instance v38 : ZV P 38 (.int .u32 0) := ⟨by kernel_rfl⟩
instance e38 : EL P 38 1 4 #[.int .u32 0] := ⟨⟨_, .int .u32 0, (by kernel_rfl : _ = some ((P.info? 38).getD default)), by kernel_rfl, by kernel_rfl, by kernel_rfl, rfl, rfl, by decide⟩⟩
instance z38 : ZC P 38 #[.int .u32 0] := ⟨⟨_, (by kernel_rfl : _ = some (.int .u32 0)), rfl⟩⟩
instance s40 : SZ P 40 6 := ⟨by kernel_rfl⟩
instance a40 : SA P 40 6 := ⟨⟨_, Tryz.underlying40, rfl⟩, s40.h⟩
instance f40_0 : FO P 40 0 0 := ⟨⟨_, _, _, Tryz.underlying40, rfl, s3.h, by decide, rfl⟩⟩
instance f40_1 : FO P 40 1 1 := ⟨⟨_, _, _, Tryz.underlying40, rfl, s3.h, by decide, rfl⟩⟩
instance f40_2 : FO P 40 2 2 := ⟨⟨_, _, _, Tryz.underlying40, rfl, s3.h, by decide, rfl⟩⟩
instance f40_3 : FO P 40 3 3 := ⟨⟨_, _, _, Tryz.underlying40, rfl, s3.h, by decide, rfl⟩⟩
instance f40_4 : FO P 40 4 4 := ⟨⟨_, _, _, Tryz.underlying40, rfl, s3.h, by decide, rfl⟩⟩
instance f40_5 : FO P 40 5 5 := ⟨⟨_, _, _, Tryz.underlying40, rfl, s38.h, by decide, rfl⟩⟩
instance u41 : UT P 41 (.pointer 157) := ⟨Tryz.underlying41⟩
instance s41 : SZ P 41 1 := ⟨by kernel_rfl⟩
instance o41 : S1 P 41 := ⟨⟨_, Tryz.underlying41, rfl⟩, s41.h⟩
instance z41 : ZC P 41 #[.pointer none] := ⟨⟨_, (by kernel_rfl : _ = some (.pointer none)), rfl⟩⟩
instance u42 : UT P 42 (.pointer 153) := ⟨Tryz.underlying42⟩
instance s42 : SZ P 42 1 := ⟨by kernel_rfl⟩
instance o42 : S1 P 42 := ⟨⟨_, Tryz.underlying42, rfl⟩, s42.h⟩
instance u43 : UT P 43 (.pointer 142) := ⟨Tryz.underlying43⟩
instance s43 : SZ P 43 1 := ⟨by kernel_rfl⟩
instance o43 : S1 P 43 := ⟨⟨_, Tryz.underlying43, rfl⟩, s43.h⟩
instance u44 : UT P 44 (.pointer 85) := ⟨Tryz.underlying44⟩
instance s44 : SZ P 44 1 := ⟨by kernel_rfl⟩
instance o44 : S1 P 44 := ⟨⟨_, Tryz.underlying44, rfl⟩, s44.h⟩
instance v45 : ZV P 45 (.agg #[.pointer none, .pointer none, .pointer none, .pointer none]) := ⟨by kernel_rfl⟩
instance e45 : EL P 45 4 32 #[.pointer none, .pointer none, .pointer none, .pointer none] := ⟨⟨_, .agg #[.pointer none, .pointer none, .pointer none, .pointer none], (by kernel_rfl : _ = some ((P.info? 45).getD default)), by kernel_rfl, by kernel_rfl, by kernel_rfl, rfl, rfl, by decide⟩⟩
instance f46_0 : FO P 46 0 0 := ⟨⟨_, _, _, Tryz.underlying46, rfl, s41.h, by decide, rfl⟩⟩
instance p46_0 : PL P 46 0 0 1 := ⟨⟨_, _, Tryz.underlying46, rfl, rfl, s41.h⟩⟩
instance p46_1 : PL P 46 1 1 1 := ⟨⟨_, _, Tryz.underlying46, rfl, rfl, s42.h⟩⟩
instance f46_2 : FO P 46 2 2 := ⟨⟨_, _, _, Tryz.underlying46, rfl, s43.h, by decide, rfl⟩⟩
instance p46_2 : PL P 46 2 2 1 := ⟨⟨_, _, Tryz.underlying46, rfl, rfl, s43.h⟩⟩
instance f46_3 : FO P 46 3 3 := ⟨⟨_, _, _, Tryz.underlying46, rfl, s44.h, by decide, rfl⟩⟩
instance p46_3 : PL P 46 3 3 1 := ⟨⟨_, _, Tryz.underlying46, rfl, rfl, s44.h⟩⟩
instance ss46 : SS P 46 := ⟨⟨_, [1, 1, 1, 1], Tryz.underlying46, by kernel_rfl⟩⟩
instance z46 : ZC P 46 #[.pointer none, .pointer none, .pointer none, .pointer none] := ⟨⟨_, (by kernel_rfl : _ = some (.agg #[.pointer none, .pointer none, .pointer none, .pointer none])), rfl⟩⟩
instance v47 : ZV P 47 (.nilFunc) := ⟨by kernel_rfl⟩
instance e47 : EL P 47 1 8 #[.nilFunc] := ⟨⟨_, .nilFunc, (by kernel_rfl : _ = some ((P.info? 47).getD default)), by kernel_rfl, by kernel_rfl, by kernel_rfl, rfl, rfl, by decide⟩⟩
instance s53 : SZ P 53 1 := ⟨by kernel_rfl⟩
instance o53 : S1 P 53 := ⟨⟨_, Tryz.underlying53, rfl⟩, s53.h⟩
instance z53 : ZC P 53 #[.int .i64 0] := ⟨⟨_, (by kernel_rfl : _ = some (.int .i64 0)), rfl⟩⟩
instance e56 : EL P 56 1 8 #[.nilFunc] := ⟨⟨_, .nilFunc, (by kernel_rfl : _ = some ((P.info? 56).getD default)), by kernel_rfl, by kernel_rfl, by kernel_rfl, rfl, rfl, by decide⟩⟩
instance u57 : UT P 57 (.slice 60) := ⟨Tryz.underlying57⟩
instance s57 : SZ P 57 1 := ⟨by kernel_rfl⟩
instance o57 : S1 P 57 := ⟨⟨_, Tryz.underlying57, rfl⟩, s57.h⟩
instance e57 : EL P 57 1 24 #[.slice none 0 0] := ⟨⟨_, .slice none 0 0, (by kernel_rfl : _ = some ((P.info? 57).getD default)), by kernel_rfl, by kernel_rfl, by kernel_rfl, rfl, rfl, by decide⟩⟩
instance u58 : UT P 58 (.int .u8) := ⟨Tryz.underlying58⟩
instance s58 : SZ P 58 1 := ⟨by kernel_rfl⟩
instance o58 : S1 P 58 := ⟨⟨_, Tryz.underlying58, rfl⟩, s58.h⟩
instance e58 : EL P 58 1 1 #[.int .u8 0] := ⟨⟨_, .int .u8 0, (by kernel_rfl : _ = some ((P.info? 58).getD default)), by kernel_rfl, by kernel_rfl, by kernel_rfl, rfl, rfl, by decide⟩⟩
instance s60 : SZ P 60 4 := ⟨by kernel_rfl⟩
instance a60 : SA P 60 4 := ⟨⟨_, Tryz.underlying60, rfl⟩, s60.h⟩
instance f60_0 : FO P 60 0 0 := ⟨⟨_, _, _, Tryz.underlying60, rfl, s38.h, by decide, rfl⟩⟩
instance p60_0 : PL P 60 0 0 1 := ⟨⟨_, _, Tryz.underlying60, rfl, rfl, s38.h⟩⟩
instance f60_1 : FO P 60 1 1 := ⟨⟨_, _, _, Tryz.underlying60, rfl, s38.h, by decide, rfl⟩⟩
instance p60_1 : PL P 60 1 1 1 := ⟨⟨_, _, Tryz.underlying60, rfl, rfl, s38.h⟩⟩
instance f60_2 : FO P 60 2 2 := ⟨⟨_, _, _, Tryz.underlying60, rfl, s3.h, by decide, rfl⟩⟩
instance p60_2 : PL P 60 2 2 1 := ⟨⟨_, _, Tryz.underlying60, rfl, rfl, s3.h⟩⟩
instance f60_3 : FO P 60 3 3 := ⟨⟨_, _, _, Tryz.underlying60, rfl, s58.h, by decide, rfl⟩⟩
instance p60_3 : PL P 60 3 3 1 := ⟨⟨_, _, Tryz.underlying60, rfl, rfl, s58.h⟩⟩
instance ss60 : SS P 60 := ⟨⟨_, [1, 1, 1, 1], Tryz.underlying60, by kernel_rfl⟩⟩
instance e60 : EL P 60 4 24 #[.int .u32 0, .int .u32 0, .int .i64 0, .int .u8 0] := ⟨⟨_, .agg #[.int .u32 0, .int .u32 0, .int .i64 0, .int .u8 0], (by kernel_rfl : _ = some ((P.info? 60).getD default)), by kernel_rfl, by kernel_rfl, by kernel_rfl, rfl, rfl, by decide⟩⟩
instance z60 : ZC P 60 #[.int .u32 0, .int .u32 0, .int .i64 0, .int .u8 0] := ⟨⟨_, (by kernel_rfl : _ = some (.agg #[.int .u32 0, .int .u32 0, .int .i64 0, .int .u8 0])), rfl⟩⟩
instance s66 : SZ P 66 4 := ⟨by kernel_rfl⟩
instance f66_0 : FO P 66 0 0 := ⟨⟨_, _, _, Tryz.underlying66, rfl, s3.h, by decide, rfl⟩⟩
instance f66_1 : FO P 66 1 1 := ⟨⟨_, _, _, Tryz.underlying66, rfl, s3.h, by decide, rfl⟩⟩
instance f66_2 : FO P 66 2 2 := ⟨⟨_, _, _, Tryz.underlying66, rfl, s3.h, by decide, rfl⟩⟩
instance f66_3 : FO P 66 3 3 := ⟨⟨_, _, _, Tryz.underlying66, rfl, s3.h, by decide, rfl⟩⟩
instance e67 : EL P 67 1 8 #[.nilFunc] := ⟨⟨_, .nilFunc, (by kernel_rfl : _ = some ((P.info? 67).getD default)), by kernel_rfl, by kernel_rfl, by kernel_rfl, rfl, rfl, by decide⟩⟩
instance v68 : ZV P 68 (.nilFunc) := ⟨by kernel_rfl⟩
instance u69 : UT P 69 (.pointer 106) := ⟨Tryz.underlying69⟩
instance s69 : SZ P 69 1 := ⟨by kernel_rfl⟩
instance o69 : S1 P 69 := ⟨⟨_, Tryz.underlying69, rfl⟩, s69.h⟩
instance v69 : ZV P 69 (.pointer none) := ⟨by kernel_rfl⟩
instance u72 : UT P 72 (.pointer 111) := ⟨Tryz.underlying72⟩
instance s72 : SZ P 72 1 := ⟨by kernel_rfl⟩
instance o72 : S1 P 72 := ⟨⟨_, Tryz.underlying72, rfl⟩, s72.h⟩
instance u83 : UT P 83 (.map 3 38) := ⟨Tryz.underlying83⟩
instance s83 : SZ P 83 1 := ⟨by kernel_rfl⟩
instance o83 : S1 P 83 := ⟨⟨_, Tryz.underlying83, rfl⟩, s83.h⟩
instance f85_0 : FO P 85 0 0 := ⟨⟨_, _, _, Tryz.underlying85, rfl, s41.h, by decide, rfl⟩⟩
instance p85_0 : PL P 85 0 0 1 := ⟨⟨_, _, Tryz.underlying85, rfl, rfl, s41.h⟩⟩
instance f85_1 : FO P 85 1 1 := ⟨⟨_, _, _, Tryz.underlying85, rfl, s42.h, by decide, rfl⟩⟩
instance p85_1 : PL P 85 1 1 1 := ⟨⟨_, _, Tryz.underlying85, rfl, rfl, s42.h⟩⟩
instance f85_2 : FO P 85 2 2 := ⟨⟨_, _, _, Tryz.underlying85, rfl, s43.h, by decide, rfl⟩⟩
instance p85_2 : PL P 85 2 2 1 := ⟨⟨_, _, Tryz.underlying85, rfl, rfl, s43.h⟩⟩
instance f85_3 : FO P 85 3 3 := ⟨⟨_, _, _, Tryz.underlying85, rfl, s83.h, by decide, rfl⟩⟩
instance p85_3 : PL P 85 3 3 1 := ⟨⟨_, _, Tryz.underlying85, rfl, rfl, s83.h⟩⟩
instance ss85 : SS P 85 := ⟨⟨_, [1, 1, 1, 1], Tryz.underlying85, by kernel_rfl⟩⟩
instance z85 : ZC P 85 #[.pointer none, .pointer none, .pointer none, .map none] := ⟨⟨_, (by kernel_rfl : _ = some (.agg #[.pointer none, .pointer none, .pointer none, .map none])), rfl⟩⟩
instance u93 : UT P 93 (.int .u64) := ⟨Tryz.underlying93⟩
instance u96 : UT P 96 (.slice 58) := ⟨Tryz.underlying96⟩
instance f106_0 : FO P 106 0 0 := ⟨⟨_, _, _, Tryz.underlying106, rfl, s41.h, by decide, rfl⟩⟩
instance p106_0 : PL P 106 0 0 1 := ⟨⟨_, _, Tryz.underlying106, rfl, rfl, s41.h⟩⟩
instance f106_1 : FO P 106 1 1 := ⟨⟨_, _, _, Tryz.underlying106, rfl, s38.h, by decide, rfl⟩⟩
instance p106_1 : PL P 106 1 1 1 := ⟨⟨_, _, Tryz.underlying106, rfl, rfl, s38.h⟩⟩
instance f106_2 : FO P 106 2 2 := ⟨⟨_, _, _, Tryz.underlying106, rfl, s3.h, by decide, rfl⟩⟩
instance p106_2 : PL P 106 2 2 1 := ⟨⟨_, _, Tryz.underlying106, rfl, rfl, s3.h⟩⟩
instance f106_3 : FO P 106 3 3 := ⟨⟨_, _, _, Tryz.underlying106, rfl, s3.h, by decide, rfl⟩⟩
instance f106_4 : FO P 106 4 4 := ⟨⟨_, _, _, Tryz.underlying106, rfl, s4.h, by decide, rfl⟩⟩
instance ss106 : SS P 106 := ⟨⟨_, [1, 1, 1, 1, 1], Tryz.underlying106, by kernel_rfl⟩⟩
instance z106 : ZC P 106 #[.pointer none, .int .u32 0, .int .i64 0, .int .i64 0, .bool false] := ⟨⟨_, (by kernel_rfl : _ = some (.agg #[.pointer none, .int .u32 0, .int .i64 0, .int .i64 0, .bool false])), rfl⟩⟩
instance f111_0 : FO P 111 0 0 := ⟨⟨_, _, _, Tryz.underlying111, rfl, s69.h, by decide, rfl⟩⟩
instance p111_0 : PL P 111 0 0 1 := ⟨⟨_, _, Tryz.underlying111, rfl, rfl, s69.h⟩⟩
instance f111_1 : FO P 111 1 1 := ⟨⟨_, _, _, Tryz.underlying111, rfl, s38.h, by decide, rfl⟩⟩
instance p111_1 : PL P 111 1 1 1 := ⟨⟨_, _, Tryz.underlying111, rfl, rfl, s38.h⟩⟩
instance ss111 : SS P 111 := ⟨⟨_, [1, 1], Tryz.underlying111, by kernel_rfl⟩⟩
instance z111 : ZC P 111 #[.pointer none, .int .u32 0] := ⟨⟨_, (by kernel_rfl : _ = some (.agg #[.pointer none, .int .u32 0])), rfl⟩⟩
instance u115 : UT P 115 (.map 122 123) := ⟨Tryz.underlying115⟩
instance s115 : SZ P 115 1 := ⟨by kernel_rfl⟩
instance o115 : S1 P 115 := ⟨⟨_, Tryz.underlying115, rfl⟩, s115.h⟩
instance z115 : ZC P 115 #[.map none] := ⟨⟨_, (by kernel_rfl : _ = some (.map none)), rfl⟩⟩
instance u116 : UT P 116 (.map 38 38) := ⟨Tryz.underlying116⟩
instance s116 : SZ P 116 1 := ⟨by kernel_rfl⟩
instance o116 : S1 P 116 := ⟨⟨_, Tryz.underlying116, rfl⟩, s116.h⟩
instance z116 : ZC P 116 #[.map none] := ⟨⟨_, (by kernel_rfl : _ = some (.map none)), rfl⟩⟩
instance u117 : UT P 117 (.slice 38) := ⟨Tryz.underlying117⟩
instance s117 : SZ P 117 1 := ⟨by kernel_rfl⟩
instance o117 : S1 P 117 := ⟨⟨_, Tryz.underlying117, rfl⟩, s117.h⟩
instance z117 : ZC P 117 #[.slice none 0 0] := ⟨⟨_, (by kernel_rfl : _ = some (.slice none 0 0)), rfl⟩⟩
instance s122 : SZ P 122 2 := ⟨by kernel_rfl⟩
instance a122 : SA P 122 2 := ⟨⟨_, Tryz.underlying122, rfl⟩, s122.h⟩
instance k122 : KeyT P 122 (Two .u32 .u32) := keyT_two Tryz.underlying122 rfl (by decide) (by decide) rfl rfl rfl rfl Tryz.underlying38 Tryz.underlying38 (by kernel_rfl)
instance f122_0 : FO P 122 0 0 := ⟨⟨_, _, _, Tryz.underlying122, rfl, s38.h, by decide, rfl⟩⟩
instance p122_0 : PL P 122 0 0 1 := ⟨⟨_, _, Tryz.underlying122, rfl, rfl, s38.h⟩⟩
instance f122_1 : FO P 122 1 1 := ⟨⟨_, _, _, Tryz.underlying122, rfl, s38.h, by decide, rfl⟩⟩
instance p122_1 : PL P 122 1 1 1 := ⟨⟨_, _, Tryz.underlying122, rfl, rfl, s38.h⟩⟩
instance ss122 : SS P 122 := ⟨⟨_, [1, 1], Tryz.underlying122, by kernel_rfl⟩⟩
instance z122 : ZC P 122 #[.int .u32 0, .int .u32 0] := ⟨⟨_, (by kernel_rfl : _ = some (.agg #[.int .u32 0, .int .u32 0])), rfl⟩⟩
instance ss123 : SS P 123 := ⟨⟨_, [], Tryz.underlying123, by kernel_rfl⟩⟩
instance v123 : ZV P 123 (.agg #[]) := ⟨by kernel_rfl⟩
instance z123 : ZC P 123 #[] := ⟨⟨_, (by kernel_rfl : _ = some (.agg #[])), rfl⟩⟩
instance s127 : SZ P 127 1 := ⟨by kernel_rfl⟩
instance o127 : S1 P 127 := ⟨⟨_, Tryz.underlying127, rfl⟩, s127.h⟩
instance s129 : SZ P 129 3 := ⟨by kernel_rfl⟩
instance a129 : SA P 129 3 := ⟨⟨_, Tryz.underlying129, rfl⟩, s129.h⟩
instance f129_0 : FO P 129 0 0 := ⟨⟨_, _, _, Tryz.underlying129, rfl, s127.h, by decide, rfl⟩⟩
instance p129_0 : PL P 129 0 0 1 := ⟨⟨_, _, Tryz.underlying129, rfl, rfl, s127.h⟩⟩
instance f129_1 : FO P 129 1 1 := ⟨⟨_, _, _, Tryz.underlying129, rfl, s58.h, by decide, rfl⟩⟩
instance p129_1 : PL P 129 1 1 1 := ⟨⟨_, _, Tryz.underlying129, rfl, rfl, s58.h⟩⟩
instance f129_2 : FO P 129 2 2 := ⟨⟨_, _, _, Tryz.underlying129, rfl, s38.h, by decide, rfl⟩⟩
instance p129_2 : PL P 129 2 2 1 := ⟨⟨_, _, Tryz.underlying129, rfl, rfl, s38.h⟩⟩
instance ss129 : SS P 129 := ⟨⟨_, [1, 1, 1], Tryz.underlying129, by kernel_rfl⟩⟩
instance z129 : ZC P 129 #[.int .i64 0, .int .u8 0, .int .u32 0] := ⟨⟨_, (by kernel_rfl : _ = some (.agg #[.int .i64 0, .int .u8 0, .int .u32 0])), rfl⟩⟩
instance u136 : UT P 136 (.slice 3) := ⟨Tryz.underlying136⟩
instance u139 : UT P 139 (.map 177 212) := ⟨Tryz.underlying139⟩
instance s139 : SZ P 139 1 := ⟨by kernel_rfl⟩
instance o139 : S1 P 139 := ⟨⟨_, Tryz.underlying139, rfl⟩, s139.h⟩
instance u140 : UT P 140 (.int .u64) := ⟨Tryz.underlying140⟩
instance s140 : SZ P 140 1 := ⟨by kernel_rfl⟩
instance o140 : S1 P 140 := ⟨⟨_, Tryz.underlying140, rfl⟩, s140.h⟩
instance f142_0 : FO P 142 0 0 := ⟨⟨_, _, _, Tryz.underlying142, rfl, s3.h, by decide, rfl⟩⟩
instance p142_0 : PL P 142 0 0 1 := ⟨⟨_, _, Tryz.underlying142, rfl, rfl, s3.h⟩⟩
instance f142_1 : FO P 142 1 1 := ⟨⟨_, _, _, Tryz.underlying142, rfl, s139.h, by decide, rfl⟩⟩
instance p142_1 : PL P 142 1 1 1 := ⟨⟨_, _, Tryz.underlying142, rfl, rfl, s139.h⟩⟩
instance f142_2 : FO P 142 2 2 := ⟨⟨_, _, _, Tryz.underlying142, rfl, s140.h, by decide, rfl⟩⟩
instance ss142 : SS P 142 := ⟨⟨_, [1, 1, 1], Tryz.underlying142, by kernel_rfl⟩⟩
instance v142 : ZV P 142 (.agg #[.int .i64 0, .map none, .int .u64 0]) := ⟨by kernel_rfl⟩
instance z142 : ZC P 142 #[.int .i64 0, .map none, .int .u64 0] := ⟨⟨_, (by kernel_rfl : _ = some (.agg #[.int .i64 0, .map none, .int .u64 0])), rfl⟩⟩
instance v144 : ZV P 144 (.nilFunc) := ⟨by kernel_rfl⟩
instance s147 : SZ P 147 2 := ⟨by kernel_rfl⟩
instance a147 : SA P 147 2 := ⟨⟨_, Tryz.underlying147, rfl⟩, s147.h⟩
instance f147_0 : FO P 147 0 0 := ⟨⟨_, _, _, Tryz.underlying147, rfl, s38.h, by decide, rfl⟩⟩
instance p147_0 : PL P 147 0 0 1 := ⟨⟨_, _, Tryz.underlying147, rfl, rfl, s38.h⟩⟩
instance f147_1 : FO P 147 1 1 := ⟨⟨_, _, _, Tryz.underlying147, rfl, s4.h, by decide, rfl⟩⟩
instance p147_1 : PL P 147 1 1 1 := ⟨⟨_, _, Tryz.underlying147, rfl, rfl, s4.h⟩⟩
instance ss147 : SS P 147 := ⟨⟨_, [1, 1], Tryz.underlying147, by kernel_rfl⟩⟩
instance z147 : ZC P 147 #[.int .u32 0, .bool false] := ⟨⟨_, (by kernel_rfl : _ = some (.agg #[.int .u32 0, .bool false])), rfl⟩⟩
instance u148 : UT P 148 (.array 8 147) := ⟨Tryz.underlying148⟩
instance s148 : SZ P 148 16 := ⟨by kernel_rfl⟩
instance s150 : SZ P 150 17 := ⟨by kernel_rfl⟩
instance f150_0 : FO P 150 0 0 := ⟨⟨_, _, _, Tryz.underlying150, rfl, s148.h, by decide, rfl⟩⟩
instance f150_1 : FO P 150 1 16 := ⟨⟨_, _, _, Tryz.underlying150, rfl, s3.h, by decide, rfl⟩⟩
instance u151 : UT P 151 (.array 256 150) := ⟨Tryz.underlying151⟩
instance s151 : SZ P 151 4352 := ⟨by kernel_rfl⟩
instance a151 : SA P 151 4352 := ⟨⟨_, Tryz.underlying151, rfl⟩, s151.h⟩
instance f153_0 : FO P 153 0 0 := ⟨⟨_, _, _, Tryz.underlying153, rfl, s28.h, by decide, rfl⟩⟩
instance p153_0 : PL P 153 0 0 3 := ⟨⟨_, _, Tryz.underlying153, rfl, rfl, s28.h⟩⟩
instance f153_1 : FO P 153 1 3 := ⟨⟨_, _, _, Tryz.underlying153, rfl, s151.h, by decide, rfl⟩⟩
instance ss153 : SS P 153 := ⟨⟨_, [3, 4352], Tryz.underlying153, by kernel_rfl⟩⟩
instance u155 : UT P 155 (.map 38 159) := ⟨Tryz.underlying155⟩
instance s155 : SZ P 155 1 := ⟨by kernel_rfl⟩
instance o155 : S1 P 155 := ⟨⟨_, Tryz.underlying155, rfl⟩, s155.h⟩
instance f157_0 : FO P 157 0 0 := ⟨⟨_, _, _, Tryz.underlying157, rfl, s3.h, by decide, rfl⟩⟩
instance p157_0 : PL P 157 0 0 1 := ⟨⟨_, _, Tryz.underlying157, rfl, rfl, s3.h⟩⟩
instance f157_1 : FO P 157 1 1 := ⟨⟨_, _, _, Tryz.underlying157, rfl, s155.h, by decide, rfl⟩⟩
instance p157_1 : PL P 157 1 1 1 := ⟨⟨_, _, Tryz.underlying157, rfl, rfl, s155.h⟩⟩
instance ss157 : SS P 157 := ⟨⟨_, [1, 1], Tryz.underlying157, by kernel_rfl⟩⟩
instance z157 : ZC P 157 #[.int .i64 0, .map none] := ⟨⟨_, (by kernel_rfl : _ = some (.agg #[.int .i64 0, .map none])), rfl⟩⟩
instance v158 : ZV P 158 (.nilFunc) := ⟨by kernel_rfl⟩
instance u159 : UT P 159 (.pointer 162) := ⟨Tryz.underlying159⟩
instance v159 : ZV P 159 (.pointer none) := ⟨by kernel_rfl⟩
instance u162 : UT P 162 (.array 4096 5) := ⟨Tryz.underlying162⟩
instance s166 : SZ P 166 3 := ⟨by kernel_rfl⟩
instance a166 : SA P 166 3 := ⟨⟨_, Tryz.underlying166, rfl⟩, s166.h⟩
instance p166_0 : PL P 166 0 0 1 := ⟨⟨_, _, Tryz.underlying166, rfl, rfl, s4.h⟩⟩
instance f166_1 : FO P 166 1 1 := ⟨⟨_, _, _, Tryz.underlying166, rfl, s4.h, by decide, rfl⟩⟩
instance f166_2 : FO P 166 2 2 := ⟨⟨_, _, _, Tryz.underlying166, rfl, s3.h, by decide, rfl⟩⟩
instance p166_2 : PL P 166 2 2 1 := ⟨⟨_, _, Tryz.underlying166, rfl, rfl, s3.h⟩⟩
instance ss166 : SS P 166 := ⟨⟨_, [1, 1, 1], Tryz.underlying166, by kernel_rfl⟩⟩
instance z166 : ZC P 166 #[.bool false, .bool false, .int .i64 0] := ⟨⟨_, (by kernel_rfl : _ = some (.agg #[.bool false, .bool false, .int .i64 0])), rfl⟩⟩
instance v172 : ZV P 172 (.nilFunc) := ⟨by kernel_rfl⟩
instance v173 : ZV P 173 (.nilFunc) := ⟨by kernel_rfl⟩
instance v174 : ZV P 174 (.nilFunc) := ⟨by kernel_rfl⟩
instance s177 : SZ P 177 2 := ⟨by kernel_rfl⟩
instance a177 : SA P 177 2 := ⟨⟨_, Tryz.underlying177, rfl⟩, s177.h⟩
instance k177 : KeyT P 177 (Two .i64 .u32) := keyT_two Tryz.underlying177 rfl (by decide) (by decide) rfl rfl rfl rfl Tryz.underlying3 Tryz.underlying38 (by kernel_rfl)
instance f177_0 : FO P 177 0 0 := ⟨⟨_, _, _, Tryz.underlying177, rfl, s3.h, by decide, rfl⟩⟩
instance p177_0 : PL P 177 0 0 1 := ⟨⟨_, _, Tryz.underlying177, rfl, rfl, s3.h⟩⟩
instance p177_1 : PL P 177 1 1 1 := ⟨⟨_, _, Tryz.underlying177, rfl, rfl, s38.h⟩⟩
instance ss177 : SS P 177 := ⟨⟨_, [1, 1], Tryz.underlying177, by kernel_rfl⟩⟩
instance z177 : ZC P 177 #[.int .i64 0, .int .u32 0] := ⟨⟨_, (by kernel_rfl : _ = some (.agg #[.int .i64 0, .int .u32 0])), rfl⟩⟩
instance u182 : UT P 182 (.slice 185) := ⟨Tryz.underlying182⟩
instance s185 : SZ P 185 3 := ⟨by kernel_rfl⟩
instance a185 : SA P 185 3 := ⟨⟨_, Tryz.underlying185, rfl⟩, s185.h⟩
instance p185_0 : PL P 185 0 0 1 := ⟨⟨_, _, Tryz.underlying185, rfl, rfl, s38.h⟩⟩
instance p185_1 : PL P 185 1 1 1 := ⟨⟨_, _, Tryz.underlying185, rfl, rfl, s38.h⟩⟩
instance f185_2 : FO P 185 2 2 := ⟨⟨_, _, _, Tryz.underlying185, rfl, s4.h, by decide, rfl⟩⟩
instance p185_2 : PL P 185 2 2 1 := ⟨⟨_, _, Tryz.underlying185, rfl, rfl, s4.h⟩⟩
instance ss185 : SS P 185 := ⟨⟨_, [1, 1, 1], Tryz.underlying185, by kernel_rfl⟩⟩
instance e185 : EL P 185 3 12 #[.int .u32 0, .int .u32 0, .bool false] := ⟨⟨_, .agg #[.int .u32 0, .int .u32 0, .bool false], (by kernel_rfl : _ = some ((P.info? 185).getD default)), by kernel_rfl, by kernel_rfl, by kernel_rfl, rfl, rfl, by decide⟩⟩
instance z185 : ZC P 185 #[.int .u32 0, .int .u32 0, .bool false] := ⟨⟨_, (by kernel_rfl : _ = some (.agg #[.int .u32 0, .int .u32 0, .bool false])), rfl⟩⟩
instance s188 : SZ P 188 2 := ⟨by kernel_rfl⟩
instance a188 : SA P 188 2 := ⟨⟨_, Tryz.underlying188, rfl⟩, s188.h⟩
instance f188_0 : FO P 188 0 0 := ⟨⟨_, _, _, Tryz.underlying188, rfl, s38.h, by decide, rfl⟩⟩
instance p188_0 : PL P 188 0 0 1 := ⟨⟨_, _, Tryz.underlying188, rfl, rfl, s38.h⟩⟩
instance f188_1 : FO P 188 1 1 := ⟨⟨_, _, _, Tryz.underlying188, rfl, s58.h, by decide, rfl⟩⟩
instance p188_1 : PL P 188 1 1 1 := ⟨⟨_, _, Tryz.underlying188, rfl, rfl, s58.h⟩⟩
instance ss188 : SS P 188 := ⟨⟨_, [1, 1], Tryz.underlying188, by kernel_rfl⟩⟩
instance z188 : ZC P 188 #[.int .u32 0, .int .u8 0] := ⟨⟨_, (by kernel_rfl : _ = some (.agg #[.int .u32 0, .int .u8 0])), rfl⟩⟩
instance u192 : UT P 192 (.slice 196) := ⟨Tryz.underlying192⟩
instance s196 : SZ P 196 2 := ⟨by kernel_rfl⟩
instance a196 : SA P 196 2 := ⟨⟨_, Tryz.underlying196, rfl⟩, s196.h⟩
instance f196_0 : FO P 196 0 0 := ⟨⟨_, _, _, Tryz.underlying196, rfl, s38.h, by decide, rfl⟩⟩
instance p196_0 : PL P 196 0 0 1 := ⟨⟨_, _, Tryz.underlying196, rfl, rfl, s38.h⟩⟩
instance f196_1 : FO P 196 1 1 := ⟨⟨_, _, _, Tryz.underlying196, rfl, s38.h, by decide, rfl⟩⟩
instance p196_1 : PL P 196 1 1 1 := ⟨⟨_, _, Tryz.underlying196, rfl, rfl, s38.h⟩⟩
instance ss196 : SS P 196 := ⟨⟨_, [1, 1], Tryz.underlying196, by kernel_rfl⟩⟩
instance e196 : EL P 196 2 8 #[.int .u32 0, .int .u32 0] := ⟨⟨_, .agg #[.int .u32 0, .int .u32 0], (by kernel_rfl : _ = some ((P.info? 196).getD default)), by kernel_rfl, by kernel_rfl, by kernel_rfl, rfl, rfl, by decide⟩⟩
instance z196 : ZC P 196 #[.int .u32 0, .int .u32 0] := ⟨⟨_, (by kernel_rfl : _ = some (.agg #[.int .u32 0, .int .u32 0])), rfl⟩⟩
instance u208 : UT P 208 (.slice 34) := ⟨Tryz.underlying208⟩
instance u210 : UT P 210 (.slice 147) := ⟨Tryz.underlying210⟩
instance s212 : SZ P 212 3 := ⟨by kernel_rfl⟩
instance a212 : SA P 212 3 := ⟨⟨_, Tryz.underlying212, rfl⟩, s212.h⟩
instance f212_0 : FO P 212 0 0 := ⟨⟨_, _, _, Tryz.underlying212, rfl, s188.h, by decide, rfl⟩⟩
instance p212_0 : PL P 212 0 0 2 := ⟨⟨_, _, Tryz.underlying212, rfl, rfl, s188.h⟩⟩
instance f212_1 : FO P 212 1 2 := ⟨⟨_, _, _, Tryz.underlying212, rfl, s140.h, by decide, rfl⟩⟩
instance p212_1 : PL P 212 1 2 1 := ⟨⟨_, _, Tryz.underlying212, rfl, rfl, s140.h⟩⟩
instance ss212 : SS P 212 := ⟨⟨_, [2, 1], Tryz.underlying212, by kernel_rfl⟩⟩
instance v212 : ZV P 212 (.agg #[.int .u32 0, .int .u8 0, .int .u64 0]) := ⟨by kernel_rfl⟩
instance z212 : ZC P 212 #[.int .u32 0, .int .u8 0, .int .u64 0] := ⟨⟨_, (by kernel_rfl : _ = some (.agg #[.int .u32 0, .int .u8 0, .int .u64 0])), rfl⟩⟩
instance u216 : UT P 216 (.array 2 38) := ⟨Tryz.underlying216⟩
instance z216 : ZC P 216 #[.int .u32 0, .int .u32 0] := ⟨⟨_, (by kernel_rfl : _ = some (.agg #[.int .u32 0, .int .u32 0])), rfl⟩⟩
instance u217 : UT P 217 (.array 2 127) := ⟨Tryz.underlying217⟩
instance z217 : ZC P 217 #[.int .i64 0, .int .i64 0] := ⟨⟨_, (by kernel_rfl : _ = some (.agg #[.int .i64 0, .int .i64 0])), rfl⟩⟩
instance u223 : UT P 223 (.array 4 58) := ⟨Tryz.underlying223⟩
instance s223 : SZ P 223 4 := ⟨by kernel_rfl⟩
instance a223 : SA P 223 4 := ⟨⟨_, Tryz.underlying223, rfl⟩, s223.h⟩
instance z223 : ZC P 223 #[.int .u8 0, .int .u8 0, .int .u8 0, .int .u8 0] := ⟨⟨_, (by kernel_rfl : _ = some (.agg #[.int .u8 0, .int .u8 0, .int .u8 0, .int .u8 0])), rfl⟩⟩
instance u231 : UT P 231 (.array 64 5) := ⟨Tryz.underlying231⟩
instance c3 : CF P 3 := ⟨Tryz.call3⟩
instance c4 : CF P 4 := ⟨Tryz.call4⟩
instance c5 : CF P 5 := ⟨Tryz.call5⟩
instance c6 : CF P 6 := ⟨Tryz.call6⟩
instance c7 : CF P 7 := ⟨Tryz.call7⟩
instance c8 : CF P 8 := ⟨Tryz.call8⟩
instance c9 : CF P 9 := ⟨Tryz.call9⟩
instance c10 : CF P 10 := ⟨Tryz.call10⟩
instance c11 : CF P 11 := ⟨Tryz.call11⟩
instance c12 : CF P 12 := ⟨Tryz.call12⟩
instance c13 : CF P 13 := ⟨Tryz.call13⟩
instance c14 : CF P 14 := ⟨Tryz.call14⟩
instance c15 : CF P 15 := ⟨Tryz.call15⟩
instance c16 : CF P 16 := ⟨Tryz.call16⟩
instance c17 : CF P 17 := ⟨Tryz.call17⟩
instance c18 : CF P 18 := ⟨Tryz.call18⟩
instance c19 : CF P 19 := ⟨Tryz.call19⟩
instance c20 : CF P 20 := ⟨Tryz.call20⟩
instance c21 : CF P 21 := ⟨Tryz.call21⟩
instance c22 : CF P 22 := ⟨Tryz.call22⟩
instance c23 : CF P 23 := ⟨Tryz.call23⟩
instance c24 : CF P 24 := ⟨Tryz.call24⟩
instance c25 : CF P 25 := ⟨Tryz.call25⟩
instance c26 : CF P 26 := ⟨Tryz.call26⟩
instance c27 : CF P 27 := ⟨Tryz.call27⟩
instance c28 : CF P 28 := ⟨Tryz.call28⟩
instance c29 : CF P 29 := ⟨Tryz.call29⟩
instance c30 : CF P 30 := ⟨Tryz.call30⟩
instance c31 : CF P 31 := ⟨Tryz.call31⟩
instance c32 : CF P 32 := ⟨Tryz.call32⟩
instance c33 : CF P 33 := ⟨Tryz.call33⟩
instance c34 : CF P 34 := ⟨Tryz.call34⟩
instance c35 : CF P 35 := ⟨Tryz.call35⟩
instance c36 : CF P 36 := ⟨Tryz.call36⟩
instance c37 : CF P 37 := ⟨Tryz.call37⟩
instance c38 : CF P 38 := ⟨Tryz.call38⟩
instance c39 : CF P 39 := ⟨Tryz.call39⟩
instance c40 : CF P 40 := ⟨Tryz.call40⟩
instance c41 : CF P 41 := ⟨Tryz.call41⟩
instance c42 : CF P 42 := ⟨Tryz.call42⟩
instance c43 : CF P 43 := ⟨Tryz.call43⟩
instance c44 : CF P 44 := ⟨Tryz.call44⟩
instance c45 : CF P 45 := ⟨Tryz.call45⟩
instance c46 : CF P 46 := ⟨Tryz.call46⟩
instance c48 : CF P 48 := ⟨Tryz.call48⟩
instance c49 : CF P 49 := ⟨Tryz.call49⟩
instance c50 : CF P 50 := ⟨Tryz.call50⟩
instance c51 : CF P 51 := ⟨Tryz.call51⟩
instance c52 : CF P 52 := ⟨Tryz.call52⟩
instance c53 : CF P 53 := ⟨Tryz.call53⟩
instance c54 : CF P 54 := ⟨Tryz.call54⟩
instance c55 : CF P 55 := ⟨Tryz.call55⟩
instance c56 : CF P 56 := ⟨Tryz.call56⟩
instance c57 : CF P 57 := ⟨Tryz.call57⟩
instance c58 : CF P 58 := ⟨Tryz.call58⟩
instance c59 : CF P 59 := ⟨Tryz.call59⟩
instance c60 : CF P 60 := ⟨Tryz.call60⟩
instance c61 : CF P 61 := ⟨Tryz.call61⟩
instance c62 : CF P 62 := ⟨Tryz.call62⟩
instance c63 : CF P 63 := ⟨Tryz.call63⟩
instance c64 : CF P 64 := ⟨Tryz.call64⟩
instance c65 : CF P 65 := ⟨Tryz.call65⟩
instance c66 : CF P 66 := ⟨Tryz.call66⟩
instance c67 : CF P 67 := ⟨Tryz.call67⟩
instance c68 : CF P 68 := ⟨Tryz.call68⟩
instance c69 : CF P 69 := ⟨Tryz.call69⟩
instance c70 : CF P 70 := ⟨Tryz.call70⟩
instance c71 : CF P 71 := ⟨Tryz.call71⟩
instance c72 : CF P 72 := ⟨Tryz.call72⟩
instance c73 : CF P 73 := ⟨Tryz.call73⟩
instance c74 : CF P 74 := ⟨Tryz.call74⟩
instance c75 : CF P 75 := ⟨Tryz.call75⟩
instance c76 : CF P 76 := ⟨Tryz.call76⟩
instance c77 : CF P 77 := ⟨Tryz.call77⟩
instance c78 : CF P 78 := ⟨Tryz.call78⟩
instance c79 : CF P 79 := ⟨Tryz.call79⟩
instance c80 : CF P 80 := ⟨Tryz.call80⟩
instance c81 : CF P 81 := ⟨Tryz.call81⟩
instance c82 : CF P 82 := ⟨Tryz.call82⟩
instance c83 : CF P 83 := ⟨Tryz.call83⟩
instance c84 : CF P 84 := ⟨Tryz.call84⟩
instance c85 : CF P 85 := ⟨Tryz.call85⟩
instance c86 : CF P 86 := ⟨Tryz.call86⟩
instance c87 : CF P 87 := ⟨Tryz.call87⟩
instance c88 : CF P 88 := ⟨Tryz.call88⟩
instance c89 : CF P 89 := ⟨Tryz.call89⟩
instance c90 : CF P 90 := ⟨Tryz.call90⟩
instance c91 : CF P 91 := ⟨Tryz.call91⟩
instance c92 : CF P 92 := ⟨Tryz.call92⟩
instance c93 : CF P 93 := ⟨Tryz.call93⟩
instance c94 : CF P 94 := ⟨Tryz.call94⟩
instance c95 : CF P 95 := ⟨Tryz.call95⟩
instance c96 : CF P 96 := ⟨Tryz.call96⟩
instance c97 : CF P 97 := ⟨Tryz.call97⟩
instance c98 : CF P 98 := ⟨Tryz.call98⟩
instance c99 : CF P 99 := ⟨Tryz.call99⟩
instance c100 : CF P 100 := ⟨Tryz.call100⟩
instance c101 : CF P 101 := ⟨Tryz.call101⟩
instance c102 : CF P 102 := ⟨Tryz.call102⟩
instance c103 : CF P 103 := ⟨Tryz.call103⟩
instance c104 : CF P 104 := ⟨Tryz.call104⟩
instance c105 : CF P 105 := ⟨Tryz.call105⟩
instance c106 : CF P 106 := ⟨Tryz.call106⟩
instance c107 : CF P 107 := ⟨Tryz.call107⟩
instance c109 : CF P 109 := ⟨Tryz.call109⟩
instance c111 : CF P 111 := ⟨Tryz.call111⟩
end Go.Eng
namespace Go.Eng
set_option maxRecDepth 100000
theorem hmix : P.follows .mixedOrders = true := by kernel_rfl
instance z162 : ZC P 162 (Array.replicate 4096 (.int .u8 0)) := ⟨⟨.agg (Array.replicate 4096 (.int .u8 0)), by kernel_rfl, rfl⟩⟩
end Go.Eng
namespace Go.Eng
theorem wrap_u64 (n : Int) : IntKind.u64.wrap n = n % 18446744073709551616 := by simp [IntKind.wrap, IntKind.bits, IntKind.signed]
theorem and_u64 {a b : Nat} (ha : a < 2 ^ 64) (hb : b < 2 ^ 64) : (Op.intBits .and .u64 (a : Nat) (b : Nat) : Sem Value) = pure (.int .u64 (a &&& b : Nat)) := by
  have h1 : (BitVec.ofInt 64 (a : Nat) &&& BitVec.ofInt 64 (b : Nat)).toNat = a &&& b := by
    rw [BitVec.toNat_and]
    simp only [BitVec.ofInt_natCast, BitVec.toNat_ofNat]
    rw [Nat.mod_eq_of_lt ha, Nat.mod_eq_of_lt hb]
  show (pure (Value.int .u64 (IntKind.u64.wrap ((BitVec.ofInt 64 (a : Nat) &&& BitVec.ofInt 64 (b : Nat)).toNat : Nat))) : Sem Value) = _
  have := Nat.and_le_left (n := a) (m := b)
  rw [h1, wrap_u64]
  congr 2
  omega
theorem and_u32 {a b : Nat} (ha : a < 2 ^ 32) (hb : b < 2 ^ 32) : (Op.intBits .and .u32 (a : Nat) (b : Nat) : Sem Value) = pure (.int .u32 (a &&& b : Nat)) := by
  have h1 : (BitVec.ofInt 32 (a : Nat) &&& BitVec.ofInt 32 (b : Nat)).toNat = a &&& b := by
    rw [BitVec.toNat_and]
    simp only [BitVec.ofInt_natCast, BitVec.toNat_ofNat]
    rw [Nat.mod_eq_of_lt ha, Nat.mod_eq_of_lt hb]
  show (pure (Value.int .u32 (IntKind.u32.wrap ((BitVec.ofInt 32 (a : Nat) &&& BitVec.ofInt 32 (b : Nat)).toNat : Nat))) : Sem Value) = _
  have := Nat.and_le_left (n := a) (m := b)
  rw [h1, IntKind.wrap_u32]
  congr 2
  omega
theorem and_u8 {a b : Nat} (ha : a < 2 ^ 8) (hb : b < 2 ^ 8) : (Op.intBits .and .u8 (a : Nat) (b : Nat) : Sem Value) = pure (.int .u8 (a &&& b : Nat)) := by
  have h1 : (BitVec.ofInt 8 (a : Nat) &&& BitVec.ofInt 8 (b : Nat)).toNat = a &&& b := by
    rw [BitVec.toNat_and]
    simp only [BitVec.ofInt_natCast, BitVec.toNat_ofNat]
    rw [Nat.mod_eq_of_lt ha, Nat.mod_eq_of_lt hb]
  show (pure (Value.int .u8 (IntKind.u8.wrap ((BitVec.ofInt 8 (a : Nat) &&& BitVec.ofInt 8 (b : Nat)).toNat : Nat))) : Sem Value) = _
  have := Nat.and_le_left (n := a) (m := b)
  rw [h1, IntKind.wrap_u8]
  congr 2
  omega
theorem and_i64 {a b : Nat} (ha : a < 2 ^ 63) (hb : b < 2 ^ 63) : (Op.intBits .and .i64 (a : Nat) (b : Nat) : Sem Value) = pure (.int .i64 (a &&& b : Nat)) := by
  have h1 : (BitVec.ofInt 64 (a : Nat) &&& BitVec.ofInt 64 (b : Nat)).toNat = a &&& b := by
    rw [BitVec.toNat_and]
    simp only [BitVec.ofInt_natCast, BitVec.toNat_ofNat]
    rw [Nat.mod_eq_of_lt (by omega), Nat.mod_eq_of_lt (by omega)]
  show (pure (Value.int .i64 (IntKind.i64.wrap ((BitVec.ofInt 64 (a : Nat) &&& BitVec.ofInt 64 (b : Nat)).toNat : Nat))) : Sem Value) = _
  have := Nat.and_le_left (n := a) (m := b)
  rw [h1]
  refine congrArg (fun n => (pure (Value.int .i64 n) : Sem Value)) ?_
  rw [IntKind.wrap_i64]
  omega
theorem or_u32 {a b : Nat} (ha : a < 2 ^ 32) (hb : b < 2 ^ 32) : (Op.intBits .or .u32 (a : Nat) (b : Nat) : Sem Value) = pure (.int .u32 (a ||| b : Nat)) := by
  have h1 : (BitVec.ofInt 32 (a : Nat) ||| BitVec.ofInt 32 (b : Nat)).toNat = a ||| b := by
    rw [BitVec.toNat_or]
    simp only [BitVec.ofInt_natCast, BitVec.toNat_ofNat]
    rw [Nat.mod_eq_of_lt ha, Nat.mod_eq_of_lt hb]
  show (pure (Value.int .u32 (IntKind.u32.wrap ((BitVec.ofInt 32 (a : Nat) ||| BitVec.ofInt 32 (b : Nat)).toNat : Nat))) : Sem Value) = _
  have := Nat.or_lt_two_pow ha hb
  rw [h1, IntKind.wrap_u32]
  congr 2
  omega
theorem and_hi {a n j : Nat} (ha : a < 2 ^ n) (hj : j ≤ n) : a &&& (2 ^ n - 2 ^ j) = a / 2 ^ j * 2 ^ j := by
  apply Nat.eq_of_testBit_eq
  intro i
  have hp : 0 < 2 ^ j := Nat.two_pow_pos j
  rw [Nat.testBit_and, show 2 ^ n - 2 ^ j = 2 ^ n - ((2 ^ j - 1) + 1) by omega, Nat.testBit_two_pow_sub_succ (by have := Nat.pow_le_pow_right (n := 2) (by omega) hj; omega), Nat.testBit_two_pow_sub_one, Nat.testBit_mul_two_pow, Nat.testBit_div_two_pow]
  by_cases h1 : i < n
  · by_cases h2 : i < j
    · have : ¬ j ≤ i := by omega
      simp [h1, h2, this]
    · have : j ≤ i := by omega
      simp [h1, h2, this, show i - j + j = i by omega]
  · have hf : a.testBit i = false := Nat.testBit_lt_two_pow (Nat.lt_of_lt_of_le ha (Nat.pow_le_pow_right (by omega) (by omega)))
    by_cases h2 : j ≤ i
    · simp [h1, h2, hf, show i - j + j = i by omega]
    · simp [h1, h2]
theorem andNot_u32 {a j : Nat} (ha : a < 2 ^ 32) (hj : j ≤ 32) : (Op.intBits .andNot .u32 (a : Nat) ((2 ^ j - 1 : Nat) : Int) : Sem Value) = pure (.int .u32 (a / 2 ^ j * 2 ^ j : Nat)) := by
  have hp : 0 < 2 ^ j := Nat.two_pow_pos j
  have hle := Nat.pow_le_pow_right (n := 2) (by omega) hj
  have h1 : (BitVec.ofInt 32 (a : Nat) &&& ~~~ BitVec.ofInt 32 ((2 ^ j - 1 : Nat) : Int)).toNat = a / 2 ^ j * 2 ^ j := by
    rw [BitVec.toNat_and, BitVec.toNat_not]
    simp only [BitVec.ofInt_natCast, BitVec.toNat_ofNat]
    rw [Nat.mod_eq_of_lt ha, Nat.mod_eq_of_lt (by omega), show 2 ^ 32 - 1 - (2 ^ j - 1) = 2 ^ 32 - 2 ^ j by omega, and_hi ha hj]
  show (pure (Value.int .u32 (IntKind.u32.wrap ((BitVec.ofInt 32 (a : Nat) &&& ~~~ BitVec.ofInt 32 ((2 ^ j - 1 : Nat) : Int)).toNat : Nat))) : Sem Value) = _
  have := Nat.div_mul_le_self a (2 ^ j)
  rw [h1, IntKind.wrap_u32]
  congr 2
  omega
theorem andNot_u8 {a j : Nat} (ha : a < 2 ^ 8) (hj : j ≤ 8) : (Op.intBits .andNot .u8 (a : Nat) ((2 ^ j - 1 : Nat) : Int) : Sem Value) = pure (.int .u8 (a / 2 ^ j * 2 ^ j : Nat)) := by
  have hp : 0 < 2 ^ j := Nat.two_pow_pos j
  have hle := Nat.pow_le_pow_right (n := 2) (by omega) hj
  have h1 : (BitVec.ofInt 8 (a : Nat) &&& ~~~ BitVec.ofInt 8 ((2 ^ j - 1 : Nat) : Int)).toNat = a / 2 ^ j * 2 ^ j := by
    rw [BitVec.toNat_and, BitVec.toNat_not]
    simp only [BitVec.ofInt_natCast, BitVec.toNat_ofNat]
    rw [Nat.mod_eq_of_lt ha, Nat.mod_eq_of_lt (by omega), show 2 ^ 8 - 1 - (2 ^ j - 1) = 2 ^ 8 - 2 ^ j by omega, and_hi ha hj]
  show (pure (Value.int .u8 (IntKind.u8.wrap ((BitVec.ofInt 8 (a : Nat) &&& ~~~ BitVec.ofInt 8 ((2 ^ j - 1 : Nat) : Int)).toNat : Nat))) : Sem Value) = _
  have := Nat.div_mul_le_self a (2 ^ j)
  rw [h1, IntKind.wrap_u8]
  congr 2
  omega
theorem madeCells_self (z : Array Value) : madeCells z z.size = z := by
  apply Array.ext
  · simp [madeCells]
  · intro i h1 h2
    simp only [madeCells, Array.getElem_map, Array.getElem_range]
    rw [Nat.mod_eq_of_lt h2]
    simp [h2]
theorem x_bsA {P : Program} {w : World} {ty t e : TypeId} {K : Value → World → Prop} {E : List PanicEntry → World → Prop} {sz by' : Nat} {z vs : Array Value} [hu : UT P t (.slice e)] [hs : EL P e sz by' z] (hsz : sz ≤ 2 ^ 24) (hvs : vs.size = sz) (hz : z.size = sz)
    (h : K (.slice (some ⟨w.heap.size, 0, none⟩) 1 1) (w.alloc (.cells vs e (0, 0)))) : X P (.buildSlice t 1 #[(0, .agg vs)]) ty w K E :=
  x_buildSlice (ps := [(0, .agg vs)]) (z' := z) (by omega) (by decide) (by rw [Nat.one_mul]; subst hz; exact madeCells_self z)
    (fill_A (off := 0) (n := sz) (c1 := vs) ⟨by omega, rfl⟩ hvs ⟨by omega, (by rw [lay_all (by simp [hvs, hz])])⟩ fill_nil) h
theorem Fr.set1 {w w' : World} {b : Nat} {o : Obj} (h : Fr (fun r => r = b) w w') : Fr (fun r => r = b) w (setBlk w' b o) := h.set (fun _ => rfl) o
theorem mask {a j : Nat} : a &&& (2 ^ j - 1) = a % 2 ^ j := Nat.and_two_pow_sub_one_eq_mod a j
section
variable {P : Program} {w : World} {ty t : TypeId} {cx cy : Bool} {K : Value → World → Prop} {E : List PanicEntry → World → Prop}
theorem x_and64 {a : Nat} {b : Int} {b' r : Nat} (ha : a < 2 ^ 64) (hb : b = b') (hb' : b' < 2 ^ 64) (hr : a &&& b' = r) (hk : K (.int .u64 (r : Nat)) w) : X P (.bin .and t cx cy (.int .u64 (a : Nat)) (.int .u64 b)) ty w K E := by
  subst hb; subst hr; exact x_bits (and_u64 ha hb') (.inl rfl) hk
theorem x_and32 {a : Nat} {b : Int} {b' r : Nat} (ha : a < 2 ^ 32) (hb : b = b') (hb' : b' < 2 ^ 32) (hr : a &&& b' = r) (hk : K (.int .u32 (r : Nat)) w) : X P (.bin .and t cx cy (.int .u32 (a : Nat)) (.int .u32 b)) ty w K E := by
  subst hb; subst hr; exact x_bits (and_u32 ha hb') (.inl rfl) hk
theorem x_and8 {a : Nat} {b : Int} {b' r : Nat} (ha : a < 2 ^ 8) (hb : b = b') (hb' : b' < 2 ^ 8) (hr : a &&& b' = r) (hk : K (.int .u8 (r : Nat)) w) : X P (.bin .and t cx cy (.int .u8 (a : Nat)) (.int .u8 b)) ty w K E := by
  subst hb; subst hr; exact x_bits (and_u8 ha hb') (.inl rfl) hk
theorem x_andI {a : Nat} {b : Int} {b' r : Nat} (ha : a < 2 ^ 63) (hb : b = b') (hb' : b' < 2 ^ 63) (hr : a &&& b' = r) (hk : K (.int .i64 (r : Nat)) w) : X P (.bin .and t cx cy (.int .i64 (a : Nat)) (.int .i64 b)) ty w K E := by
  subst hb; subst hr; exact x_bits (and_i64 ha hb') (.inl rfl) hk
theorem x_or32 {a b : Int} {a' b' r : Nat} (h1 : a = a') (ha : a' < 2 ^ 32) (hb : b = b') (hb' : b' < 2 ^ 32) (hr : a' ||| b' = r) (hk : K (.int .u32 (r : Nat)) w) : X P (.bin .or t cx cy (.int .u32 a) (.int .u32 b)) ty w K E := by
  subst h1; subst hb; subst hr; exact x_bits (or_u32 ha hb') (.inr (.inl rfl)) hk
theorem x_andNot32 {a j : Nat} {b : Int} (ha : a < 2 ^ 32) (hj : j ≤ 32) (hb : b = (2 ^ j - 1 : Nat)) (hk : K (.int .u32 (a / 2 ^ j * 2 ^ j : Nat)) w) : X P (.bin .andNot t cx cy (.int .u32 (a : Nat)) (.int .u32 b)) ty w K E := by
  subst hb; exact x_bits (andNot_u32 ha hj) (.inr (.inr (.inl rfl))) hk
theorem x_andNot8 {a j : Nat} {b : Int} (ha : a < 2 ^ 8) (hj : j ≤ 8) (hb : b = (2 ^ j - 1 : Nat)) (hk : K (.int .u8 (a / 2 ^ j * 2 ^ j : Nat)) w) : X P (.bin .andNot t cx cy (.int .u8 (a : Nat)) (.int .u8 b)) ty w K E := by
  subst hb; exact x_bits (andNot_u8 ha hj) (.inr (.inr (.inl rfl))) hk
end
end Go.Eng
namespace Go.Eng
abbrev Ev := List PanicEntry → World → Prop
abbrev Qx := Exit → Act → World → Prop
abbrev K0 := World → Prop
abbrev K1 := Value → World → Prop
abbrev K2 := Value → Value → World → Prop
abbrev K3 := Value → Value → Value → World → Prop
abbrev K4 := Value → Value → Value → Value → World → Prop
abbrev K5 := Value → Value → Value → Value → Value → World → Prop
abbrev K6 := Value → Value → Value → Value → Value → Value → World → Prop
abbrev K7 := Value → Value → Value → Value → Value → Value → Value → World → Prop
abbrev K8 := Value → Value → Value → Value → Value → Value → Value → Value → World → Prop
abbrev K9 := Value → Value → Value → Value → Value → Value → Value → Value → Value → World → Prop
abbrev K10 := Value → Value → Value → Value → Value → Value → Value → Value → Value → Value → World → Prop
abbrev K11 := Value → Value → Value → Value → Value → Value → Value → Value → Value → Value → Value → World → Prop
abbrev K12 := Value → Value → Value → Value → Value → Value → Value → Value → Value → Value → Value → Value → World → Prop
abbrev K13 := Value → Value → Value → Value → Value → Value → Value → Value → Value → Value → Value → Value → Value → World → Prop
abbrev K14 := Value → Value → Value → Value → Value → Value → Value → Value → Value → Value → Value → Value → Value → Value → World → Prop
abbrev K15 := Value → Value → Value → Value → Value → Value → Value → Value → Value → Value → Value → Value → Value → Value → Value → World → Prop
abbrev HE (Q : Qx) (E : Ev) : Prop := ∀ ch a' w', E ch w' → Q (.panic ch) a' w'
abbrev A0 (n : Nat) (x : Array Value) : Act := { tmps := x ++ Array.replicate (n - x.size) undef, defers := [] }
def Z0 : Cut := fun _ => none
def Y0 : Nat → Env → World → Prop := fun _ _ _ => False
end Go.Eng
